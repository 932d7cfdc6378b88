import PyProof.Rows.All
import HandS.ForMost
import HandS.Flow
import HandS.Style
import HandS.Star
import HandS.IsInst
import HandS.Deep
import HandS.TupAny
import HandS.TupMul
import HandS.SortInts
import HandS.TupSets
import HandS.Zip
import HandS.Wide
import HandS.Conv
import HandS.Exc
import HandS.WordsExc
import HandS.CallSlots
import HandS.Defaults
import HandS.Dict
import HandS.DictComp
import HandS.Small
import KE.KTupSum
import HandS.TupLe
import KE.GoesEnum
import HandS.Ends
import HandS.Head0
import HandS.Head1
import HandS.Head2
import HandS.HeadEnd
import HandS.HeadHook1
import HandS.HeadHook2
import PySem.Challenge.RW_silentbeats_k32_whole_kin_by_all_turns
set_option Elab.async false
set_option linter.all false
set_option maxRecDepth 100000
set_option maxHeartbeats 4000000
/-! Ev: a small evaluator over plain values; what it tells is what the program does (EvRel, EvExpr, EvStmt, EvFn). -/
namespace Ev
open PySem L2

/-- a plain value: mutable things are numbers of the store -/
inductive PV where
  | non | bl (b : Bool) | int (i : Int) | str (x : Str) | tup (xs : List PV) | obj (n : Nat) | ty (t : String) | glo (x : Str) | rol (xs : List PV) | shw (d : PyData)
  deriving Inhabited

inductive MO where
  | lst (xs : List PV)
  | dct (kvs : List (Key × PV))

/-- the store: a tree by the bits of the number -/
inductive Tr where
  | leaf
  | node (l : Tr) (v : Option MO) (r : Tr)
def Tr.get : Tr → Nat → Option MO
  | .leaf, _ => none
  | .node l v r, i => match i with
    | 0 => v
    | j + 1 => match j % 2 with
      | 0 => l.get (j / 2)
      | _ => r.get (j / 2)
def Tr.put (o : MO) : Nat → Tr → Nat → Tr
  | 0, t, _ => t
  | f + 1, .leaf, i => match i with
    | 0 => .node .leaf (some o) .leaf
    | j + 1 => match j % 2 with
      | 0 => .node (Tr.put o f .leaf (j / 2)) none .leaf
      | _ => .node .leaf none (Tr.put o f .leaf (j / 2))
  | f + 1, .node l v r, i => match i with
    | 0 => .node l (some o) r
    | j + 1 => match j % 2 with
      | 0 => .node (Tr.put o f l (j / 2)) v r
      | _ => .node l v (Tr.put o f r (j / 2))
structure Store where
  n : Nat
  t : Tr
def Store.get (s : Store) (i : Nat) : Option MO := s.t.get i
def Store.put (s : Store) (i : Nat) (o : MO) : Store := ⟨s.n, s.t.put o (i + 1) i⟩
def Store.push (s : Store) (o : MO) : Store := ⟨s.n + 1, s.t.put o (s.n + 1) s.n⟩
def Store.empty : Store := ⟨0, .leaf⟩

theorem Tr.get_put_same (o : MO) : ∀ (f : Nat) (t : Tr) (i : Nat), i < 2 ^ f - 1 → (t.put o f i).get i = some o
  | 0, _, i, h => by simp at h
  | f + 1, .leaf, 0, _ => rfl
  | f + 1, .leaf, j + 1, h => by
    have hj : j / 2 < 2 ^ f - 1 := by rw [Nat.pow_succ] at h; omega
    have ih := Tr.get_put_same o f .leaf (j / 2) hj
    simp only [Tr.put]
    cases e : j % 2 with
    | zero => simp only [Tr.get, e]; exact ih
    | succ m => simp only [Tr.get, e]; exact ih
  | f + 1, .node l v r, 0, _ => rfl
  | f + 1, .node l v r, j + 1, h => by
    have hj : j / 2 < 2 ^ f - 1 := by rw [Nat.pow_succ] at h; omega
    simp only [Tr.put]
    cases e : j % 2 with
    | zero => simp only [Tr.get, e]; exact Tr.get_put_same o f l (j / 2) hj
    | succ m => simp only [Tr.get, e]; exact Tr.get_put_same o f r (j / 2) hj
theorem Tr.get_leaf (i : Nat) : Tr.get .leaf i = none := by cases i <;> rfl
theorem Tr.get_put_ne (o : MO) : ∀ (f : Nat) (t : Tr) (i k : Nat), i ≠ k → (t.put o f i).get k = t.get k
  | 0, _, _, _, _ => rfl
  | f + 1, .leaf, 0, 0, h => absurd rfl h
  | f + 1, .leaf, 0, k + 1, _ => by
    simp only [Tr.put, Tr.get]
    cases e : k % 2 with
    | zero => simp only [Tr.get_leaf]
    | succ m => simp only [Tr.get_leaf]
  | f + 1, .leaf, j + 1, 0, _ => by
    simp only [Tr.put]
    cases e : j % 2 with
    | zero => simp only [Tr.get]
    | succ m => simp only [Tr.get]
  | f + 1, .leaf, j + 1, k + 1, h => by
    simp only [Tr.put]
    cases e : j % 2 with
    | zero =>
      simp only [Tr.get]
      cases e2 : k % 2 with
      | zero => simp only []; rw [Tr.get_put_ne o f .leaf (j / 2) (k / 2) (by omega), Tr.get_leaf]
      | succ m => simp only [Tr.get_leaf]
    | succ m =>
      simp only [Tr.get]
      cases e2 : k % 2 with
      | zero => simp only [Tr.get_leaf]
      | succ m2 => simp only []; rw [Tr.get_put_ne o f .leaf (j / 2) (k / 2) (by omega), Tr.get_leaf]
  | f + 1, .node l v r, 0, 0, h => absurd rfl h
  | f + 1, .node l v r, 0, k + 1, _ => by
    simp only [Tr.put, Tr.get]
  | f + 1, .node l v r, j + 1, 0, _ => by
    simp only [Tr.put]
    cases e : j % 2 with
    | zero => simp only [Tr.get]
    | succ m => simp only [Tr.get]
  | f + 1, .node l v r, j + 1, k + 1, h => by
    simp only [Tr.put]
    cases e : j % 2 with
    | zero =>
      simp only [Tr.get]
      cases e2 : k % 2 with
      | zero => simp only []; rw [Tr.get_put_ne o f l (j / 2) (k / 2) (by omega)]
      | succ m => simp only []
    | succ m =>
      simp only [Tr.get]
      cases e2 : k % 2 with
      | zero => simp only []
      | succ m2 => simp only []; rw [Tr.get_put_ne o f r (j / 2) (k / 2) (by omega)]
theorem two_pow_gt (i : Nat) : i < 2 ^ (i + 1) - 1 := by
  have := Nat.lt_two_pow_self (n := i + 1)
  omega
theorem Store.get_put_same {s : Store} {i : Nat} {o : MO} : (s.put i o).get i = some o := Tr.get_put_same o (i + 1) s.t i (two_pow_gt i)
theorem Store.get_put_ne {s : Store} {i k : Nat} {o : MO} (h : i ≠ k) : (s.put i o).get k = s.get k := Tr.get_put_ne o (i + 1) s.t i k h
theorem Store.get_push_same {s : Store} {o : MO} : (s.push o).get s.n = some o := Tr.get_put_same o (s.n + 1) s.t s.n (two_pow_gt s.n)
theorem Store.get_push_ne {s : Store} {k : Nat} {o : MO} (h : s.n ≠ k) : (s.push o).get k = s.get k := Tr.get_put_ne o (s.n + 1) s.t s.n k h

/-- an exception: its class, its fields -/
structure Exn where
  cls : Str
  fs : List (Str × PV)

inductive Res (α : Type) where
  | ok (a : α) (s : Store)
  | exc (x : Exn) (s : Store)
  | stuck
def Res.bind {α β : Type} (r : Res α) (f : α → Store → Res β) : Res β := match r with
  | .ok a s => f a s
  | .exc x s => .exc x s
  | .stuck => .stuck

abbrev Env := List (Option PV)
def getS : Env → Nat → Option PV
  | [], _ => none
  | v :: _, 0 => v
  | _ :: r, i + 1 => getS r i
def setS (v : PV) : Env → Nat → Env
  | [], _ => []
  | _ :: r, 0 => some v :: r
  | x :: r, i + 1 => x :: setS v r i
def unS : Env → Nat → Env
  | [], _ => []
  | _ :: r, 0 => none :: r
  | x :: r, i + 1 => x :: unS r i
def wipeS (env : Env) : List Nat → Env
  | [] => env
  | v :: vs => unS (wipeS env vs) v

/-- where a sequence came from -/
inductive Src where
  | tup | tmp | obj (n : Nat) | rol

inductive Bop where
  | add | sub | mul | mod | fdiv | pow
  deriving DecidableEq
inductive Cop where
  | eq | ne | lt | le | gt | ge | isin | notin
  deriving DecidableEq
inductive Blt where
  | abs | int | max2 | min2 | isi (t : String)
inductive Cbl where
  | tuple | sum | all | any | len | max | min

mutual
inductive E where
  | slot (i : Nat)
  | lit (v : PV)
  | gco (x : Str) (v : PV)
  | bin (op : Bop) (a b : E)
  | neg (a : E)
  | cmp (op : Cop) (a b : E)
  | chn (o p : Cop) (a b c : E)
  | and (a b : E)
  | or (a b : E)
  | not (a : E)
  | ite (c a b : E)
  | call (f : Nat) (args : Es) (dfl : List PV)
  | blt (b : Blt) (args : Es)
  | cbl (b : Cbl) (l : L)
  | mk (l : L)
  | sub (a i : E)
  | slc (a : E) (lo hi : Oe)
  | stp (a : E) (lo hi : Oe) (c : E)
  | tupd (es : Es)
  | isn (neg : Bool) (a : E)
  | isb (neg b : Bool) (a : E)
  | rpr (neg : Bool) (a b : E)
  | append (a b : E)
  | idx (a b : E)
  | shw (a : E)
  | dsp (ks : List Key) (vs : Es)
  | dcm (own : List Nat) (tg : List Nat) (one : Bool) (it : It) (ifs : Es) (k v : E)
  | never
inductive L where
  | comp (own : List Nat) (tg : List Nat) (one : Bool) (it : It) (ifs : Es) (elt : E)
  | disp (es : Es)
  | lst (l : L)
  | val (e : E)
  | sset (l : L)
inductive Es where
  | nil
  | cons (e : E) (es : Es)
  | star (l : L) (es : Es)
inductive It where
  | seq (l : L)
  | rng1 (a : E)
  | rng2 (a b : E)
  | rng3 (a b c : E)
  | enm (l : L)
  | zip (l m : L)
inductive Oe where
  | no
  | so (e : E)
end

/-! ### values by values -/
def allocL (xs : List PV) (st : Store) : Res PV := .ok (.obj st.n) (st.push (.lst xs))

def mapO (f : PV → Option PyData) : List PV → Option (List PyData)
  | [] => some []
  | x :: xs => match f x with
    | some d => (match mapO f xs with
      | some ds => some (d :: ds)
      | none => none)
    | none => none
/-- the data that a value is now (to a depth) -/
def toD (st : Store) : Nat → PV → Option PyData
  | _, .non => some .none
  | _, .bl b => some (.bool b)
  | _, .int i => some (.int i)
  | _, .str x => if PyData.strOk x then some (.str x) else none
  | n + 1, .tup xs => match mapO (toD st n) xs with
    | some ds => some (.tuple ds)
    | none => none
  | n + 1, .rol xs => match mapO (toD st n) xs with
    | some ds => some (.list ds)
    | none => none
  | n + 1, .obj m => match st.get m with
    | some (.lst xs) => (match mapO (toD st n) xs with
      | some ds => some (.list ds)
      | none => none)
    | _ => none
  | _, _ => none
end Ev

namespace Ev
open PySem L2

/-! ### operators by values -/
def mulOk (i j : Int) : Bool := decide (i.natAbs < 18446744073709551616) || decide (j.natAbs < 18446744073709551616) || decide (i.natAbs.log2 + j.natAbs.log2 < 1000000)
def evBin (op : Bop) (x y : PV) (st : Store) : Res PV := match op with
  | .add => (match x, y with
    | .int i, .int j => .ok (.int (i + j)) st
    | .str a, .str b => if a.length + b.length ≤ sizeLine then .ok (.str (a ++ b)) st else .stuck
    | .tup a, .tup b => if a.length + b.length ≤ sizeLine then .ok (.tup (a ++ b)) st else .stuck
    | .obj m, .obj n => (match st.get m, st.get n with
      | some (.lst a), some (.lst b) => if a.length + b.length ≤ sizeLine then allocL (a ++ b) st else .stuck
      | _, _ => .stuck)
    | _, _ => .stuck)
  | .sub => (match x, y with
    | .int i, .int j => .ok (.int (i - j)) st
    | _, _ => .stuck)
  | .mul => (match x, y with
    | .int i, .int j => if mulOk i j then .ok (.int (i * j)) st else .stuck
    | .obj m, .int k => (match st.get m with
      | some (.lst a) => if k < 16777216 ∧ -16777216 < k ∧ a.length * k.toNat ≤ sizeLine then allocL (List.replicate k.toNat a).flatten st else .stuck
      | _ => .stuck)
    | .tup a, .int k => if a ≠ [] ∧ 2 ≤ k ∧ k ≤ 1000 ∧ a.length ≤ 1000 then .ok (.tup (List.replicate k.toNat a).flatten) st else if k = 1 then .ok (.tup a) st else .stuck
    | _, _ => .stuck)
  | .mod => (match x, y with
    | .int i, .int j => if 0 < j then .ok (.int (i % j)) st else if j < 0 then .ok (.int (i.fmod j)) st else .stuck
    | _, _ => .stuck)
  | .fdiv => (match x, y with
    | .int i, .int j => if 0 < j then (if j < 1073741824 then .ok (.int (i / j)) st else if j.natAbs.log2 < 9000 then .ok (.int (i / j)) st else .stuck)
        else if j < 0 ∧ -1073741824 < j then .ok (.int (i.fdiv j)) st else .stuck
    | _, _ => .stuck)
  | .pow => (match x, y with
    | .int i, .int j => if 0 ≤ j ∧ j ≤ 10000 ∧ i.natAbs < 18446744073709551616 then .ok (.int (i ^ j.toNat)) st else .stuck
    | _, _ => .stuck)

/-! are the two texts that repr makes alike: told only where the data are alike -/
mutual
def sameD : PyData → PyData → Bool
  | .none, .none => true
  | .bool a, .bool b => a == b
  | .int a, .int b => a == b
  | .str a, .str b => a == b
  | .list a, .list b => sameDs a b
  | .tuple a, .tuple b => sameDs a b
  | _, _ => false
def sameDs : List PyData → List PyData → Bool
  | [], [] => true
  | x :: xs, y :: ys => sameD x y && sameDs xs ys
  | _, _ => false
end
/-- x op= y: ints -/
def evIop (op : Bop) (x y : PV) (st : Store) : Res PV := match x, y with
  | .int i, .int j => (match op with
    | .add => .ok (.int (i + j)) st
    | .sub => .ok (.int (i - j)) st
    | .mul => if mulOk i j then .ok (.int (i * j)) st else .stuck
    | .mod => if 0 < j then .ok (.int (i % j)) st else .stuck
    | .fdiv => if 0 < j then (if j < 1073741824 then .ok (.int (i / j)) st else .stuck) else .stuck
    | .pow => .stuck)
  | _, _ => .stuck
def eqD (x y : PV) (st : Store) : Option Bool := match x, y with
  | .int i, .int j => some (i == j)
  | .shw d, .shw e => if sameD d e then some true else none
  | x, y => match toD st 60 x, toD st 60 y with
    | some d, some e => some (PyData.eqv d e)
    | _, _ => none
/-- the items of a list, a tuple -/
def items (y : PV) (st : Store) : Option (Src × List PV) := match y with
  | .tup xs => some (.tup, xs)
  | .rol xs => some (.rol, xs)
  | .obj n => match st.get n with
    | some (.lst xs) => some (.obj n, xs)
    | _ => none
  | _ => none
def inD (x y : PV) (st : Store) : Option Bool := match items y st with
  | some (_, ys) => (match toD st 59 x, mapO (toD st 59) ys with
    | some d, some es => some (es.any fun z => PyData.eqv z d)
    | _, _ => none)
  | none => none
def okB (b : Option Bool) (st : Store) : Res PV := match b with
  | some b => .ok (.bl b) st
  | none => .stuck
def evCmp (op : Cop) (x y : PV) (st : Store) : Res PV := match op with
  | .eq => okB (eqD x y st) st
  | .ne => (match eqD x y st with
    | some b => .ok (.bl (!b)) st
    | none => .stuck)
  | .lt => (match x, y with
    | .int i, .int j => .ok (.bl (decide (i < j))) st
    | _, _ => .stuck)
  | .le => (match x, y with
    | .int i, .int j => .ok (.bl (decide (i ≤ j))) st
    | _, _ => .stuck)
  | .gt => (match x, y with
    | .int i, .int j => .ok (.bl (decide (j < i))) st
    | _, _ => .stuck)
  | .ge => (match x, y with
    | .int i, .int j => .ok (.bl (decide (j ≤ i))) st
    | _, _ => .stuck)
  | .isin => okB (inD x y st) st
  | .notin => (match inD x y st with
    | some b => .ok (.bl (!b)) st
    | none => .stuck)

def truth (x : PV) (st : Store) : Option Bool := match x with
  | .non => some false
  | .bl b => some b
  | .int i => some (i != 0)
  | .str y => if y.length ≤ sizeLine then some ((y.length : Int) != 0) else none
  | .tup xs => some (!xs.isEmpty)
  | .rol xs => some (!xs.isEmpty)
  | .obj n => (match st.get n with
    | some (.lst xs) => some (!xs.isEmpty)
    | some (.dct kvs) => some (!kvs.isEmpty)
    | none => none)
  | _ => none

def tyName (x : PV) (st : Store) : Option String := match x with
  | .non => some "NoneType"
  | .bl _ => some "bool"
  | .int _ => some "int"
  | .str _ => some "str"
  | .tup _ => some "tuple"
  | .obj n => (match st.get n with
    | some (.lst _) => some "list"
    | some (.dct _) => some "dict"
    | none => none)
  | _ => none
/-- isinstance of built-in types -/
def isiT (t : String) (u : String) : Option Bool := match t with
  | "NoneType" => (match u with | "int" => some false | "bool" => some false | "tuple" => some false | "str" => some false | "list" => some false | _ => none)
  | "bool" => (match u with | "int" => some true | "bool" => some true | "tuple" => some false | "str" => some false | "list" => some false | _ => none)
  | "int" => (match u with | "int" => some true | "bool" => some false | "tuple" => some false | "str" => some false | "list" => some false | _ => none)
  | "str" => (match u with | "int" => some false | "bool" => some false | "tuple" => some false | "str" => some true | "list" => some false | _ => none)
  | "tuple" => (match u with | "int" => some false | "bool" => some false | "tuple" => some true | "str" => some false | "list" => some false | _ => none)
  | "list" => (match u with | "int" => some false | "bool" => some false | "tuple" => some false | "str" => some false | "list" => some true | _ => none)
  | "dict" => (match u with | "int" => some false | "bool" => some false | "tuple" => some false | "str" => some false | "list" => some false | _ => none)
  | _ => none
def evBlt (b : Blt) (xs : List PV) (st : Store) : Res PV := match b with
  | .abs => (match xs with
    | [.int i] => .ok (.int (if i < 0 then -i else i)) st
    | _ => .stuck)
  | .int => (match xs with
    | [.int i] => .ok (.int i) st
    | [.bl k] => .ok (.int (if k then 1 else 0)) st
    | _ => .stuck)
  | .max2 => (match xs with
    | [.int i, .int j] => .ok (.int (if j > i then j else i)) st
    | _ => .stuck)
  | .min2 => (match xs with
    | [.int i, .int j] => .ok (.int (if j < i then j else i)) st
    | _ => .stuck)
  | .isi u => (match xs with
    | [x] => (match tyName x st with
      | some t => okB (isiT t u) st
      | none => .stuck)
    | _ => .stuck)

def intsOf : List PV → Option (List Int)
  | [] => some []
  | .int i :: r => (match intsOf r with
    | some is => some (i :: is)
    | none => none)
  | _ => none
def boolsOf : List PV → Option (List Bool)
  | [] => some []
  | .bl b :: r => (match boolsOf r with
    | some bs => some (b :: bs)
    | none => none)
  | _ => none
def maxI : Int → List Int → Int
  | m, [] => m
  | m, x :: r => maxI (if m < x then x else m) r
def minI : Int → List Int → Int
  | m, [] => m
  | m, x :: r => minI (if x < m then x else m) r
def isLst : Src → Bool
  | .tup => false
  | _ => true
def evCbl (b : Cbl) (q : Src × List PV) (st : Store) : Res PV := match b with
  | .tuple => .ok (.tup q.2) st
  | .len => .ok (.int q.2.length) st
  | .sum => (match intsOf q.2 with
    | some ns => .ok (.int ns.sum) st
    | none => .stuck)
  | .all => (match isLst q.1, boolsOf q.2 with
    | true, some bs => .ok (.bl (bs.all id)) st
    | _, _ => .stuck)
  | .any => (match isLst q.1, boolsOf q.2 with
    | true, some bs => .ok (.bl (bs.any id)) st
    | _, _ => .stuck)
  | .max => (match isLst q.1, intsOf q.2 with
    | true, some (n :: ns) => .ok (.int (maxI n ns)) st
    | _, _ => .stuck)
  | .min => (match isLst q.1, intsOf q.2 with
    | true, some (n :: ns) => .ok (.int (minI n ns)) st
    | _, _ => .stuck)

/-! ### subscripts and slices -/
def atP : List PV → Nat → Option PV
  | [], _ => none
  | x :: _, 0 => some x
  | _ :: r, i + 1 => atP r i
def putP (v : PV) : List PV → Nat → List PV
  | [], _ => []
  | _ :: r, 0 => v :: r
  | x :: r, i + 1 => x :: putP v r i
def okO (x : Option PV) (st : Store) : Res PV := match x with
  | some v => .ok v st
  | none => .stuck
/-! the first place of an equal item -/
def firstD (d : PyData) : List PyData → Nat → Option Nat
  | [], _ => none
  | z :: r, j => if PyData.eqv z d = true then some j else firstD d r (j + 1)
def evIdx (x y : PV) (st : Store) : Res PV := match x with
  | .obj n => (match st.get n with
    | some (.lst xs) => (match toD st 59 y, mapO (toD st 59) xs with
      | some d, some ds => (match firstD d ds 0 with
        | some j => .ok (.int j) st
        | none => .stuck)
      | _, _ => .stuck)
    | _ => .stuck)
  | _ => .stuck
/-! tuples of ints, sorted, each once -/
def ltL : List Int → List Int → Bool
  | x :: a, y :: b => if x < y then true else if x = y then ltL a b else false
  | _, _ => false
def insL (a : List Int) : List (List Int) → List (List Int)
  | [] => [a]
  | b :: r => if ltL a b = true then a :: b :: r else if a = b then b :: r else b :: insL a r
def ssort : List (List Int) → List (List Int)
  | [] => []
  | a :: l => insL a (ssort l)
def tupsOf : List PV → Option (List (List Int))
  | [] => some []
  | .tup xs :: r => (match intsOf xs, tupsOf r with
    | some ns, some l => some (ns :: l)
    | _, _ => none)
  | _ => none
def allTups (d : Nat) (l : List (List Int)) : Bool := l.all fun ns => decide (ns.length = d) && ns.all fun i => decide (-1000000 ≤ i) && decide (i < 1000000)
def sset (q : Src × List PV) (st : Store) : Res (Src × List PV) := match isLst q.1, tupsOf q.2 with
  | true, some (a :: l) => if 1 ≤ a.length ∧ (a :: l).length < 64 ∧ allTups a.length (a :: l) = true then .ok (.tmp, (ssort (a :: l)).map fun ns => .tup (ns.map .int)) st else .stuck
  | _, _ => .stuck
/-! dicts: keys are ints and texts -/
def keyP : PV → Option Key
  | .int i => some (.inl i)
  | .str x => some (.inr x)
  | _ => none
def valP : List (Key × PV) → Key → Option PV
  | [], _ => none
  | (j, v) :: r, k => if j = k then some v else valP r k
def putKP : List (Key × PV) → Key → PV → List (Key × PV)
  | [], k, v => [(k, v)]
  | (j, x) :: r, k, v => if j = k then (j, v) :: putKO r k v else (j, x) :: putKP r k v
where putKO : List (Key × PV) → Key → PV → List (Key × PV)
  | [], _, _ => []
  | (j, x) :: r, k, v => (if j = k then (j, v) else (j, x)) :: putKO r k v
def subD (x : PV) (k : Key) (st : Store) : Res PV := match x with
  | .obj n => (match st.get n with
    | some (.dct kvs) => okO (valP kvs k) st
    | _ => .stuck)
  | _ => .stuck
def setD (x : PV) (k : Key) (v : PV) (st : Store) : Res Unit := match x with
  | .obj n => (match st.get n with
    | some (.dct kvs) => if kvs.length < sizeLine then .ok () (st.put n (.dct (putKP kvs k v))) else .stuck
    | _ => .stuck)
  | _ => .stuck
def evSub (x y : PV) (st : Store) : Res PV := match y with
  | .int i => (match items x st with
    | some (_, xs) => (match ixN xs.length i with
      | some k => okO (atP xs k) st
      | none => .stuck)
    | none => subD x (.inl i) st)
  | .str k => subD x (.inr k) st
  | _ => .stuck
/-- x[i] = v of a list, of a dict -/
def evSet (x y v : PV) (st : Store) : Res Unit := match x, y with
  | .obj n, .int i => (match st.get n with
    | some (.lst xs) => (match ixN xs.length i with
      | some k => .ok () (st.put n (.lst (putP v xs k)))
      | none => .stuck)
    | _ => setD (.obj n) (.inl i) v st)
  | x, .str k => setD x (.inr k) v st
  | _, _ => .stuck
def lstP (x : PV) (st : Store) : Bool := match x with
  | .obj n => (match st.get n with
    | some (.lst _) => true
    | _ => false)
  | _ => false
def evApp (x v : PV) (st : Store) : Res PV := match x with
  | .obj n => (match st.get n with
    | some (.lst xs) => if xs.length < sizeLine then .ok .non (st.put n (.lst (xs ++ [v]))) else .stuck
    | _ => .stuck)
  | _ => .stuck
def cutL (xs : List PV) (lo hi : Option Int) : List PV := (xs.drop (HT.sIx xs.length 0 lo)).take (HT.sIx xs.length xs.length hi - HT.sIx xs.length 0 lo)
def evSlc (x : PV) (lo hi : Option Int) (st : Store) : Res PV := match items x st with
  | some (.tup, xs) => .ok (.tup (cutL xs lo hi)) st
  | some (_, xs) => allocL (cutL xs lo hi) st
  | none => .stuck
/-- the items of a slice with a step: of a tuple, of a list -/
def pickT (xs : List PV) (lo hi : Option Int) (c : Int) : List PV :=
  (List.range (Builtin.Slice.slicePlaces (Builtin.Slice.sliceAdjust lo hi c xs.length).1 (Builtin.Slice.sliceAdjust lo hi c xs.length).2 c)).filterMap fun (m : Nat) => xs[((Builtin.Slice.sliceAdjust lo hi c xs.length).1 + (m : Int) * c).toNat]?
def pickL (xs : List PV) (lo hi : Option Int) (c : Int) : List PV :=
  (sliceRange (sliceBounds lo hi (some c) xs.length).1 (sliceBounds lo hi (some c) xs.length).2.1 (sliceBounds lo hi (some c) xs.length).2.2).filterMap (xs[·]?)
def evStp (x : PV) (lo hi : Option Int) (c : PV) (st : Store) : Res PV := match c with
  | .int k => if k = 0 then .stuck else (match items x st with
    | some (.tup, xs) => if Builtin.Slice.slicePlaces (Builtin.Slice.sliceAdjust lo hi k xs.length).1 (Builtin.Slice.sliceAdjust lo hi k xs.length).2 k ≤ sizeLine then .ok (.tup (pickT xs lo hi k)) st else .stuck
    | some (_, xs) => allocL (pickL xs lo hi k) st
    | none => .stuck)
  | _ => .stuck

-- no text of d is longer
mutual
def szD : PyData → Nat
  | .none => 4
  | .bool _ => 5
  | .int _ => 1921
  | .str x => (reprText x).length
  | .list xs => szAll xs + 2
  | .tuple xs => szAll xs + 3
  | .dict kvs => (PyData.shown (.dict kvs)).length
def szAll : List PyData → Nat
  | [] => 0
  | x :: xs => szD x + 2 + szAll xs
end
/-- the data whose text repr makes -/
def shownD (x : PV) (st : Store) : Res PyData := match toD st 60 x with
  | some d => if d.showable && decide (szD d ≤ sizeLine) then .ok d st else .stuck
  | none => .stuck
def rprEnd (neg : Bool) (d e : PyData) (st : Store) : Res PV := if sameD d e then .ok (.bl (!neg)) st else .stuck

/-! ### the evaluator -/
def rngL (lo : Int) : Nat → List PV
  | 0 => []
  | n + 1 => .int lo :: rngL (lo + 1) n
def rngC (lo c : Int) : Nat → List PV
  | 0 => []
  | n + 1 => .int lo :: rngC (lo + c) c n
def enmL (i : Nat) : List PV → List PV
  | [] => []
  | x :: r => .tup [.int i, x] :: enmL (i + 1) r
def zipL : List PV → List PV → List PV
  | x :: r, y :: q => .tup [x, y] :: zipL r q
  | _, _ => []
def bigI (i : Int) : Bool := decide (-4611686018427387904 ≤ i) && decide (i < 4611686018427387904)

/-- the target's names -/
def bindT (one : Bool) (tg : List Nat) (v : PV) (env : Env) : Option Env := match one, tg with
  | true, [i] => some (setS v env i)
  | true, _ => none
  | false, is => match v with
    | .tup xs => bindTs is xs env
    | _ => none
where bindTs : List Nat → List PV → Env → Option Env
  | [], [], env => some env
  | i :: is, v :: vs, env => bindTs is vs (setS v env i)
  | _, _, _ => none

/-- what a loop walks: items that stand, a list of the store read anew at each turn, such a list with places -/
inductive Itr where
  | st (xs : List PV)
  | ob (n : Nat)
  | en (n : Nat)
def nxtI (j : Itr) (i : Nat) (st : Store) : Option (Option PV) := match j with
  | .st _ => none
  | .ob n => (match st.get n with
    | some (.lst ys) => some (atP ys i)
    | _ => none)
  | .en n => (match st.get n with
    | some (.lst ys) => (match atP ys i with
      | some y => some (some (.tup [.int i, y]))
      | none => some none)
    | _ => none)
def srcI (q : Src × List PV) : Itr := match q.1 with
  | .obj n => .ob n
  | _ => .st q.2
def enmI (q : Src × List PV) : Itr := match q.1 with
  | .obj n => .en n
  | _ => .st (enmL 0 q.2)

def boolR (r : Res PV) : Res Bool := match r with
  | .ok x st => (match truth x st with
    | some b => .ok b st
    | none => .stuck)
  | .exc x st => .exc x st
  | .stuck => .stuck

/-- no exception leaves here -/
def noX {α : Type} (r : Res α) : Res α := match r with
  | .exc _ _ => .stuck
  | r => r
/-- one turn of a comprehension -/
def compTurn1 (tg : List Nat) (one : Bool) (tst : Env → Store → Res Bool) (elt : Env → Store → Res PV) (env : Env) (x : PV) (acc : List PV) (st : Store) : Res (List PV) := match bindT one tg x env with
  | none => .stuck
  | some env' => (noX (tst env' st)).bind fun b st1 => match b with
    | true => (noX (elt env' st1)).bind fun v st2 => .ok (v :: acc) st2
    | false => .ok acc st1
/-- the items of a comprehension, one after another -/
def compGo (turn : PV → List PV → Store → Res (List PV)) : List PV → List PV → Store → Res (List PV)
  | [], acc, st => .ok acc st
  | x :: r, acc, st => (turn x acc st).bind fun acc' st1 => compGo turn r acc' st1
def compGoO (turn : PV → List PV → Store → Res (List PV)) (j : Itr) : Nat → Nat → List PV → Store → Res (List PV)
  | 0, _, _, _ => .stuck
  | f + 1, i, acc, st => match nxtI j i st with
    | none => .stuck
    | some none => .ok acc st
    | some (some x) => (turn x acc st).bind fun acc' st1 => compGoO turn j f (i + 1) acc' st1
def compAll (turn : PV → List PV → Store → Res (List PV)) (j : Itr) (st : Store) : Res (List PV) := match j with
  | .st xs => if xs.length ≤ 16777215 then compGo turn xs [] st else .stuck
  | j => compGoO turn j 16777216 0 [] st
/-- one turn of a dict's comprehension, all turns -/
def dcTurn (tg : List Nat) (one : Bool) (tst : Env → Store → Res Bool) (kx vx : Env → Store → Res PV) (env : Env) (x : PV) (acc : List (Key × PV)) (st : Store) : Res (List (Key × PV)) := match bindT one tg x env with
  | none => .stuck
  | some env' => (noX (tst env' st)).bind fun b st1 => match b with
    | true => (noX (kx env' st1)).bind fun y st2 => (noX (vx env' st2)).bind fun v st3 => (match keyP y with
      | some k => .ok (putKP acc k v) st3
      | none => .stuck)
    | false => .ok acc st1
def dcGo (turn : PV → List (Key × PV) → Store → Res (List (Key × PV))) : List PV → List (Key × PV) → Store → Res (List (Key × PV))
  | [], acc, st => .ok acc st
  | x :: r, acc, st => (turn x acc st).bind fun acc' st1 => dcGo turn r acc' st1
def dcAll (turn : PV → List (Key × PV) → Store → Res (List (Key × PV))) (j : Itr) (st : Store) : Res (List (Key × PV)) := match j with
  | .st xs => if xs.length ≤ 16777215 then dcGo turn xs [] st else .stuck
  | _ => .stuck
def dcEnd (kvs : List (Key × PV)) (st : Store) : Res PV := .ok (.obj st.n) (st.push (.dct kvs))
/-- the pairs of a display -/
def mergeP : List (Key × PV) → List Key → List PV → Option (List (Key × PV))
  | acc, [], [] => some acc
  | acc, k :: ks, v :: vs => mergeP (putKP acc k v) ks vs
  | _, _, _ => none
def dspEnd (ks : List Key) (vs : List PV) (st : Store) : Res PV := match mergeP [] ks vs with
  | some kvs => .ok (.obj st.n) (st.push (.dct kvs))
  | none => .stuck
def compEnd (vs : List PV) (st : Store) : Res (Src × List PV) := .ok (.tmp, vs.reverse) st

/-- an expression's value, and its truth -/
abbrev MP := Env → Store → Res PV
abbrev MB := Env → Store → Res Bool
def mkP (m : MP) : MP × MB := (m, fun env st => boolR (m env st))
section
variable (cf : Nat → List PV → Store → Res PV)
mutual
def evP : E → MP × MB
  | .slot i => mkP fun env st => okO (getS env i) st
  | .lit v => mkP fun _ st => .ok v st
  | .gco _ v => mkP fun _ st => .ok v st
  | .bin op a b => mkP fun env st => ((evP a).1 env st).bind fun x st1 => ((evP b).1 env st1).bind fun y st2 => evBin op x y st2
  | .neg a => mkP fun env st => ((evP a).1 env st).bind fun x st1 => match x with
    | .int i => .ok (.int (-i)) st1
    | _ => .stuck
  | .cmp op a b => mkP fun env st => ((evP a).1 env st).bind fun x st1 => ((evP b).1 env st1).bind fun y st2 => evCmp op x y st2
  | .chn o p a b c => mkP fun env st => ((evP a).1 env st).bind fun x st1 => ((evP b).1 env st1).bind fun y st2 => (evCmp o x y st2).bind fun z st3 => match z with
    | .bl true => ((evP c).1 env st3).bind fun w st4 => evCmp p y w st4
    | .bl false => .ok (.bl false) st3
    | _ => .stuck
  | .and a b => (fun env st => ((evP a).1 env st).bind fun x st1 => match truth x st1 with
    | some true => (evP b).1 env st1
    | some false => .ok x st1
    | none => .stuck, fun env st => ((evP a).2 env st).bind fun k st1 => match k with
    | true => (evP b).2 env st1
    | false => .ok false st1)
  | .or a b => (fun env st => ((evP a).1 env st).bind fun x st1 => match truth x st1 with
    | some true => .ok x st1
    | some false => (evP b).1 env st1
    | none => .stuck, fun env st => ((evP a).2 env st).bind fun k st1 => match k with
    | true => .ok true st1
    | false => (evP b).2 env st1)
  | .not a => (fun env st => (boolR ((evP a).1 env st)).bind fun b st1 => .ok (.bl (!b)) st1, fun env st => ((evP a).2 env st).bind fun b st1 => .ok (!b) st1)
  | .ite c a b => (fun env st => ((evP c).2 env st).bind fun k st1 => match k with
    | true => (evP a).1 env st1
    | false => (evP b).1 env st1, fun env st => ((evP c).2 env st).bind fun k st1 => match k with
    | true => (evP a).2 env st1
    | false => (evP b).2 env st1)
  | .call f args dfl => mkP fun env st => (evEs args env st).bind fun vs st1 => noX (cf f (vs ++ dfl) st1)
  | .blt b args => mkP fun env st => (evEs args env st).bind fun vs st1 => evBlt b vs st1
  | .cbl b l => mkP fun env st => (evL l env st).bind fun q st1 => evCbl b q st1
  | .mk l => mkP fun env st => (evL l env st).bind fun q st1 => match q.1 with
    | .tmp => allocL q.2 st1
    | _ => .stuck
  | .sub a i => mkP fun env st => ((evP a).1 env st).bind fun x st1 => ((evP i).1 env st1).bind fun y st2 => evSub x y st2
  | .slc a lo hi => mkP fun env st => ((evP a).1 env st).bind fun x st1 => (evO lo env st1).bind fun l st2 => (evO hi env st2).bind fun h st3 => evSlc x l h st3
  | .stp a lo hi c => mkP fun env st => ((evP a).1 env st).bind fun x st1 => (evO lo env st1).bind fun l st2 => (evO hi env st2).bind fun h st3 => ((evP c).1 env st3).bind fun k st4 => evStp x l h k st4
  | .tupd es => mkP fun env st => (evEs es env st).bind fun vs st1 => if vs.length ≤ sizeLine then .ok (.tup vs) st1 else .stuck
  | .isn neg a => mkP fun env st => ((evP a).1 env st).bind fun x st1 => match x with
    | .non => .ok (.bl (!neg)) st1
    | _ => .ok (.bl neg) st1
  | .isb neg b a => mkP fun env st => ((evP a).1 env st).bind fun x st1 => match x with
    | .bl k => .ok (.bl (xor neg (k == b))) st1
    | _ => .stuck
  | .rpr neg a b => mkP fun env st => (((evP a).1 env st).bind shownD).bind fun d st1 => (((evP b).1 env st1).bind shownD).bind fun e st2 => rprEnd neg d e st2
  | .append a b => mkP fun env st => ((evP a).1 env st).bind fun x st1 => match lstP x st1 with
    | true => ((evP b).1 env st1).bind fun y st2 => evApp x y st2
    | false => .stuck
  | .idx a b => mkP fun env st => ((evP a).1 env st).bind fun x st1 => match lstP x st1 with
    | true => ((evP b).1 env st1).bind fun y st2 => evIdx x y st2
    | false => .stuck
  | .shw a => mkP fun env st => (((evP a).1 env st).bind shownD).bind fun d st1 => .ok (.shw d) st1
  | .dsp ks vs => mkP fun env st => if ks.length ≤ 15 then (evEs vs env st).bind fun xs st1 => dspEnd ks xs st1 else .stuck
  | .dcm own tg one it ifs kx vx => mkP fun env st => (evI it env st).bind fun j st1 => (dcAll (dcTurn tg one (evTs ifs) (evP kx).1 (evP vx).1 (wipeS env own)) j st1).bind dcEnd
  | .never => mkP fun _ _ => .stuck
def evEs : Es → Env → Store → Res (List PV)
  | .nil => fun _ st => .ok [] st
  | .cons e es => fun env st => ((evP e).1 env st).bind fun v st1 => (evEs es env st1).bind fun vs st2 => .ok (v :: vs) st2
  | .star l es => fun env st => (evL l env st).bind fun q st1 => (evEs es env st1).bind fun vs st2 => .ok (q.2 ++ vs) st2
def evL : L → Env → Store → Res (Src × List PV)
  | .comp own tg one it ifs elt => fun env st => (evI it env st).bind fun j st1 => (compAll (compTurn1 tg one (evTs ifs) (evP elt).1 (wipeS env own)) j st1).bind compEnd
  | .disp es => fun env st => (evEs es env st).bind fun vs st1 => if vs.length ≤ sizeLine then .ok (.tmp, vs) st1 else .stuck
  | .lst l => fun env st => (evL l env st).bind fun q st1 => .ok (.tmp, q.2) st1
  | .val e => fun env st => ((evP e).1 env st).bind fun x st1 => match items x st1 with
    | some q => .ok q st1
    | none => .stuck
  | .sset l => fun env st => (evL l env st).bind fun q st1 => sset q st1
def evTs : Es → Env → Store → Res Bool
  | .nil => fun _ st => .ok true st
  | .cons e es => fun env st => ((evP e).2 env st).bind fun k st1 => match k with
    | true => evTs es env st1
    | false => .ok false st1
  | .star _ _ => fun _ _ => .stuck
def evI : It → Env → Store → Res Itr
  | .seq l => fun env st => (evL l env st).bind fun q st1 => .ok (srcI q) st1
  | .rng1 a => fun env st => ((evP a).1 env st).bind fun x st1 => match x with
    | .int j => if bigI j then .ok (.st (rngL 0 j.toNat)) st1 else .stuck
    | _ => .stuck
  | .rng2 a b => fun env st => ((evP a).1 env st).bind fun x st1 => ((evP b).1 env st1).bind fun y st2 => match x, y with
    | .int i, .int j => if bigI i && bigI j then .ok (.st (rngL i (j - i).toNat)) st2 else .stuck
    | _, _ => .stuck
  | .rng3 a b c => fun env st => ((evP a).1 env st).bind fun x st1 => ((evP b).1 env st1).bind fun y st2 => ((evP c).1 env st2).bind fun z st3 => match x, y, z with
    | .int i, .int j, .int k => if decide (k ≠ 0) && decide (k.natAbs < 1073741824) && (Builtin.Range.small i j k && decide (0 ≤ Builtin.Range.rangeSize i j k)) then .ok (.st (rngC i k (Builtin.Range.rangeSize i j k).toNat)) st3 else .stuck
    | _, _, _ => .stuck
  | .enm l => fun env st => (evL l env st).bind fun q st1 => .ok (enmI q) st1
  | .zip l m => fun env st => (evL l env st).bind fun q st1 => (evL m env st1).bind fun r st2 => match q.1, r.1 with
    | .tup, .tup => .ok (.st (zipL q.2 r.2)) st2
    | _, _ => .stuck
def evO : Oe → Env → Store → Res (Option Int)
  | .no => fun _ st => .ok none st
  | .so e => fun env st => ((evP e).1 env st).bind fun x st1 => match x with
    | .int i => .ok (some i) st1
    | _ => .stuck
end
abbrev evE (e : E) : MP := (evP cf e).1
abbrev evT (e : E) : MB := (evP cf e).2
end

/-! ### statements -/
mutual
inductive S where
  | asg (i : Nat) (e : E)
  | asgT (is : List Nat) (e : E)
  | par (is : List Nat) (es : Es)
  | sets (o i e : E)
  | set2 (o i p j e : E)
  | aug (i : Nat) (op : Bop) (e : E)
  | expr (e : E)
  | ret (e : E)
  | retN
  | pass
  | brk
  | cont
  | ite (c : E) (a b : Ss)
  | for (tg : List Nat) (one : Bool) (it : It) (body : Ss)
  | while (c : E) (body : Ss)
  | never
inductive Ss where
  | nil
  | cons (s : S) (r : Ss)
end
inductive SR where
  | nx (env : Env) (s : Store)
  | rt (v : PV) (s : Store)
  | bk (env : Env) (s : Store)
  | ct (env : Env) (s : Store)
  | exc (x : Exn) (env : Env) (s : Store)
  | stuck
def SR.bind (r : SR) (f : Env → Store → SR) : SR := match r with
  | .nx env s => f env s
  | r => r
/-- behind an expression -/
def Res.thn {α : Type} (r : Res α) (env : Env) (f : α → Store → SR) : SR := match r with
  | .ok a s => f a s
  | .exc x s => .exc x env s
  | .stuck => .stuck
def optN (e : Option Env) (st : Store) : SR := match e with
  | some env => .nx env st
  | none => .stuck
/-- a turn's end in a loop: go on, or leave -/
def SR.turn (r : SR) (f : Env → Store → SR) : SR := match r with
  | .nx env s => f env s
  | .ct env s => f env s
  | .bk env s => .nx env s
  | r => r
def forGo (tg : List Nat) (one : Bool) (body : Env → Store → SR) : List PV → Env → Store → SR
  | [], env, st => .nx env st
  | x :: r, env, st => match bindT one tg x env with
    | none => .stuck
    | some env' => (body env' st).turn fun e s => forGo tg one body r e s
def forGoO (tg : List Nat) (one : Bool) (body : Env → Store → SR) (j : Itr) : Nat → Nat → Env → Store → SR
  | 0, _, _, _ => .stuck
  | f + 1, i, env, st => match nxtI j i st with
    | none => .stuck
    | some none => .nx env st
    | some (some x) => (match bindT one tg x env with
      | none => .stuck
      | some env' => (body env' st).turn fun e s => forGoO tg one body j f (i + 1) e s)
def forAll (tg : List Nat) (one : Bool) (body : Env → Store → SR) (j : Itr) (env : Env) (st : Store) : SR := match j with
  | .st xs => forGo tg one body xs env st
  | j => forGoO tg one body j 16777216 0 env st
def whileGo (c : Env → Store → Res Bool) (body : Env → Store → SR) : Nat → Env → Store → SR
  | 0, _, _ => .stuck
  | f + 1, env, st => (c env st).thn env fun k st1 => match k with
    | true => (body env st1).turn fun e s => whileGo c body f e s
    | false => .nx env st1
/-- names and values, one after another -/
def setAll : List Nat → List PV → Env → Option Env
  | [], [], env => some env
  | i :: is, v :: vs, env => setAll is vs (setS v env i)
  | _, _, _ => none

section
variable (cf : Nat → List PV → Store → Res PV)
mutual
def evS : S → Env → Store → SR
  | .asg i e => fun env st => (evE cf e env st).thn env fun v st1 => .nx (setS v env i) st1
  | .asgT is e => fun env st => (evE cf e env st).thn env fun v st1 => match v with
    | .tup vs => optN (setAll is vs env) st1
    | _ => .stuck
  | .par is es => fun env st => (evEs cf es env st).thn env fun vs st1 => optN (setAll is vs env) st1
  | .sets o i e => fun env st => (evE cf e env st).thn env fun v st1 => (evE cf o env st1).thn env fun x st2 => (evE cf i env st2).thn env fun y st3 => (evSet x y v st3).thn env fun _ st4 => .nx env st4
  | .set2 o i p j e => fun env st => (evE cf e env st).thn env fun v st1 => match v with
    | .tup [v1, v2] => (evE cf o env st1).thn env fun x st2 => (evE cf i env st2).thn env fun y st3 => (evSet x y v1 st3).thn env fun _ st4 => (evE cf p env st4).thn env fun x2 st5 => (evE cf j env st5).thn env fun y2 st6 => (evSet x2 y2 v2 st6).thn env fun _ st7 => .nx env st7
    | _ => .stuck
  | .aug i op e => fun env st => match getS env i with
    | some x => (evE cf e env st).thn env fun y st1 => (evIop op x y st1).thn env fun z st2 => .nx (setS z env i) st2
    | none => .stuck
  | .expr e => fun env st => (evE cf e env st).thn env fun _ st1 => .nx env st1
  | .ret e => fun env st => (evE cf e env st).thn env fun v st1 => .rt v st1
  | .retN => fun _ st => .rt .non st
  | .pass => fun env st => .nx env st
  | .brk => fun env st => .bk env st
  | .cont => fun env st => .ct env st
  | .ite c a b => fun env st => (evT cf c env st).thn env fun k st1 => match k with
    | true => evSs a env st1
    | false => evSs b env st1
  | .for tg one it body => fun env st => (evI cf it env st).thn env fun j st1 => forAll tg one (evSs body) j env st1
  | .while c body => fun env st => whileGo (evT cf c) (evSs body) 16777216 env st
  | .never => fun _ _ => .stuck
def evSs : Ss → Env → Store → SR
  | .nil => fun env st => .nx env st
  | .cons s r => fun env st => (evS s env st).bind fun e1 st1 => evSs r e1 st1
end
end

/-! ### functions -/
structure Fn where
  n : Nat
  np : Nat
  body : Ss
def startS (n : Nat) (vs : List PV) : Env := vs.map some ++ List.replicate (n - vs.length) none
def endF (r : SR) : Res PV := match r with
  | .nx _ s => .ok .non s
  | .rt v s => .ok v s
  | .exc x _ s => .exc x s
  | _ => .stuck
def nth : List Fn → Nat → Option Fn
  | [], _ => none
  | f :: _, 0 => some f
  | _ :: r, i + 1 => nth r i
def evF (T : List Fn) : Nat → Nat → List PV → Store → Res PV
  | 0, _, _, _ => .stuck
  | k + 1, f, vs, st => match nth T f with
    | some fn => if vs.length = fn.np then endF (evSs (evF T k) fn.body (startS fn.n vs) st) else .stuck
    | none => .stuck
end Ev

namespace Ev
open PySem L2

/-! ### plain values and the model's values -/
/-- a list that nothing changes: known to the object, or one of the module's own -/
def SqR (K : PySem.W.Frag) (H : Hp) (a : Addr) (xs : List V) : Prop :=
  (∃ o, H a = some (.frz o (.lst xs))) ∨ ∃ (o : Obj) (its : Array Value) (n : Nat), K.lookup a = some o ∧ o.cls = .type "list" ∧ o.dict = none ∧ o.data = .seq its n ∧ its.size ≤ sizeLine ∧ Vals xs its.toList
theorem SqR.sqL {K : PySem.W.Frag} {H : Hp} {a : Addr} {xs : List V} (h : SqR K H a xs) : SqL K H a xs := by
  rcases h with h | h
  · exact .inl (.inr h)
  · exact .inr h
mutual
inductive Rep (K : PySem.W.Frag) (mg : Str → Option Value) (ι : List Addr) (H : Hp) : PV → V → Prop
  | non : Rep K mg ι H .non .non
  | bl (b : Bool) : Rep K mg ι H (.bl b) (.bl b)
  | int (i : Int) : Rep K mg ι H (.int i) (.int i)
  | str (x : Str) : Rep K mg ι H (.str x) (.str x)
  | tup {a : Addr} {xs : List PV} {vs : List V} : SqT K H a vs → Reps K mg ι H xs vs → Rep K mg ι H (.tup xs) (.ref a)
  | obj {n : Nat} {a : Addr} : ι[n]? = some a → Rep K mg ι H (.obj n) (.ref a)
  | ty (t : String) : Rep K mg ι H (.ty t) (.ty t)
  | glo {x : Str} {a : Addr} : mg x = some (.ref a) → Rep K mg ι H (.glo x) (.ref a)
  | rol {a : Addr} {xs : List PV} {vs : List V} : SqR K H a vs → Reps K mg ι H xs vs → Rep K mg ι H (.rol xs) (.ref a)
  | shw (d : PyData) : Rep K mg ι H (.shw d) (.str d.shown)
inductive Reps (K : PySem.W.Frag) (mg : Str → Option Value) (ι : List Addr) (H : Hp) : List PV → List V → Prop
  | nil : Reps K mg ι H [] []
  | cons {x : PV} {v : V} {xs : List PV} {vs : List V} : Rep K mg ι H x v → Reps K mg ι H xs vs → Reps K mg ι H (x :: xs) (v :: vs)
end

/-- keys and values of a dict -/
def RepK (K : PySem.W.Frag) (mg : Str → Option Value) (ι : List Addr) (H : Hp) (kvs : List (Key × PV)) (kws : List (Key × V)) : Prop :=
  kvs.map (·.1) = kws.map (·.1) ∧ Reps K mg ι H (kvs.map (·.2)) (kws.map (·.2))

def RepO (K : PySem.W.Frag) (mg : Str → Option Value) (ι : List Addr) (H : Hp) (a : Addr) : MO → Prop
  | .lst xs => ∃ vs, H a = some (.lst vs) ∧ Reps K mg ι H xs vs
  | .dct kvs => ∃ kws, H a = some (.dK kws) ∧ RepK K mg ι H kvs kws

structure Rel (K : PySem.W.Frag) (mg : Str → Option Value) (ι : List Addr) (H : Hp) (st : Store) : Prop where
  len : ι.length = st.n
  nd : ι.Nodup
  obj : ∀ n a, ι[n]? = some a → ∃ o, st.get n = some o ∧ RepO K mg ι H a o
  out : ∀ n, st.n ≤ n → st.get n = none

/-- from (ι, H) to (ι', H'): the known objects stay known, what is not among them stays as it was -/
structure Grow (ι : List Addr) (H : Hp) (ι' : List Addr) (H' : Hp) : Prop where
  pre : ι <+: ι'
  new : ∀ a, a ∈ ι' → a ∈ ι ∨ H a = none
  ext : ∀ b o, H b = some o → b ∉ ι → H' b = some o

theorem Grow.refl (ι : List Addr) (H : Hp) : Grow ι H ι H := ⟨List.prefix_refl _, fun _ h => .inl h, fun _ _ h _ => h⟩
theorem Grow.trans {ι ι1 ι2 : List Addr} {H H1 H2 : Hp} (g : Grow ι H ι1 H1) (g' : Grow ι1 H1 ι2 H2) : Grow ι H ι2 H2 := by
  refine ⟨g.pre.trans g'.pre, fun a h => ?_, fun b o h hb => ?_⟩
  · rcases g'.new a h with h1 | h1
    · exact g.new a h1
    · by_cases ha : a ∈ ι
      · exact .inl ha
      · cases e : H a with
        | none => exact .inr rfl
        | some o => rw [g.ext a o e ha] at h1; cases h1
  · refine g'.ext b o (g.ext b o h hb) fun hb1 => ?_
    rcases g.new b hb1 with h1 | h1
    · exact hb h1
    · rw [h] at h1; cases h1

theorem Grow.get {ι ι' : List Addr} {H H' : Hp} (g : Grow ι H ι' H') {n : Nat} {a : Addr} (h : ι[n]? = some a) : ι'[n]? = some a := by
  obtain ⟨t, e⟩ := g.pre
  rw [← e, List.getElem?_append_left]
  · exact h
  · exact (List.getElem?_eq_some_iff.mp h).1

theorem RepO.some {K mg ι H a o} (h : RepO K mg ι H a o) : (∃ vs, H a = some (.lst vs)) ∨ ∃ kws, H a = some (.dK kws) := by
  cases o with
  | lst xs => obtain ⟨vs, e, _⟩ := h; exact .inl ⟨vs, e⟩
  | dct kvs => obtain ⟨kws, e, _⟩ := h; exact .inr ⟨kws, e⟩

section
variable {K : PySem.W.Frag} {mg : Str → Option Value} {ι ι' : List Addr} {H H' : Hp} {st : Store}

theorem Rel.mem (R : Rel K mg ι H st) {a : Addr} (h : a ∈ ι) : (∃ vs, H a = some (.lst vs)) ∨ ∃ kws, H a = some (.dK kws) := by
  obtain ⟨n, hn⟩ := List.mem_iff_getElem?.mp h
  obtain ⟨o, _, ho⟩ := R.obj n a hn
  exact ho.some
theorem Rel.notTup (R : Rel K mg ι H st) {a : Addr} {vs : List V} (h : H a = some (.tup vs)) : a ∉ ι := fun hm => by
  rcases R.mem hm with ⟨ws, e⟩ | ⟨ws, e⟩ <;> (rw [h] at e; cases e)
theorem Rel.notFrz (R : Rel K mg ι H st) {a : Addr} {o : Obj} {u : HO} (h : H a = some (.frz o u)) : a ∉ ι := fun hm => by
  rcases R.mem hm with ⟨ws, e⟩ | ⟨ws, e⟩ <;> (rw [h] at e; cases e)
theorem Rel.fresh (R : Rel K mg ι H st) {p : Addr} (h : H p = none) : p ∉ ι := fun hm => by
  rcases R.mem hm with ⟨ws, e⟩ | ⟨ws, e⟩ <;> (rw [h] at e; cases e)
theorem Rel.seqT (R : Rel K mg ι H st) (g : Grow ι H ι' H') {a : Addr} {vs : List V} (h : SqT K H a vs) : SqT K H' a vs := by
  rcases h with h | h
  · rcases h with h | ⟨o, h⟩
    · exact .inl (.inl (g.ext _ _ h (R.notTup h)))
    · exact .inl (.inr ⟨o, g.ext _ _ h (R.notFrz h)⟩)
  · exact .inr h

theorem SqR.grow (R : Rel K mg ι H st) (g : Grow ι H ι' H') {a : Addr} {vs : List V} (h : SqR K H a vs) : SqR K H' a vs := by
  rcases h with ⟨o, h⟩ | h
  · exact .inl ⟨o, g.ext _ _ h (R.notFrz h)⟩
  · exact .inr h
mutual
theorem Rep.grow (R : Rel K mg ι H st) (g : Grow ι H ι' H') : ∀ {x : PV} {v : V}, Rep K mg ι H x v → Rep K mg ι' H' x v
  | _, _, .non => .non
  | _, _, .bl b => .bl b
  | _, _, .int i => .int i
  | _, _, .str x => .str x
  | _, _, .tup h hs => .tup (R.seqT g h) (Reps.grow R g hs)
  | _, _, .obj h => .obj (g.get h)
  | _, _, .ty t => .ty t
  | _, _, .glo h => .glo h
  | _, _, .rol h hs => .rol (SqR.grow R g h) (Reps.grow R g hs)
  | _, _, .shw d => .shw d
theorem Reps.grow (R : Rel K mg ι H st) (g : Grow ι H ι' H') : ∀ {xs : List PV} {vs : List V}, Reps K mg ι H xs vs → Reps K mg ι' H' xs vs
  | _, _, .nil => .nil
  | _, _, .cons h hs => .cons (Rep.grow R g h) (Reps.grow R g hs)
end
theorem Reps.length : ∀ {xs : List PV} {vs : List V}, Reps K mg ι H xs vs → xs.length = vs.length
  | _, _, .nil => rfl
  | _, _, .cons _ hs => congrArg (· + 1) (Reps.length hs)
theorem Reps.append : ∀ {xs ys : List PV} {vs ws : List V}, Reps K mg ι H xs vs → Reps K mg ι H ys ws → Reps K mg ι H (xs ++ ys) (vs ++ ws)
  | _, _, _, _, .nil, h => h
  | _, _, _, _, .cons h hs, h' => .cons h (Reps.append hs h')
theorem Reps.get : ∀ {xs : List PV} {vs : List V} {i : Nat} {x : PV}, Reps K mg ι H xs vs → atP xs i = some x → ∃ v, vs[i]? = some v ∧ Rep K mg ι H x v
  | _, _, _, _, .nil, e => by simp [atP] at e
  | _, _, 0, _, .cons (v := v) h _, e => by simp [atP] at e; subst e; exact ⟨v, rfl, h⟩
  | _, _, i + 1, x, .cons _ hs, e => by
    obtain ⟨v, h1, h2⟩ := Reps.get (i := i) hs (by simpa [atP] using e)
    exact ⟨v, by simpa using h1, h2⟩
theorem Reps.getV : ∀ {xs : List PV} {vs : List V} {i : Nat} {v : V}, Reps K mg ι H xs vs → vs[i]? = some v → ∃ x, atP xs i = some x ∧ Rep K mg ι H x v
  | _, _, _, _, .nil, e => by simp at e
  | _, _, 0, _, .cons (x := x) h _, e => by simp at e; subst e; exact ⟨x, rfl, h⟩
  | _, _, i + 1, v, .cons _ hs, e => by
    obtain ⟨x, h1, h2⟩ := Reps.getV (i := i) hs (by simpa using e)
    exact ⟨x, by simpa [atP] using h1, h2⟩
theorem Reps.put {v : PV} {u : V} (h : Rep K mg ι H v u) : ∀ {xs : List PV} {vs : List V} (i : Nat), Reps K mg ι H xs vs → Reps K mg ι H (putP v xs i) (vs.set i u)
  | _, _, _, .nil => .nil
  | _, _, 0, .cons _ hs => .cons h hs
  | _, _, i + 1, .cons h' hs => .cons h' (Reps.put h i hs)
theorem Reps.take : ∀ {xs : List PV} {vs : List V} (n : Nat), Reps K mg ι H xs vs → Reps K mg ι H (xs.take n) (vs.take n)
  | _, _, 0, _ => .nil
  | _, _, _ + 1, .nil => .nil
  | _, _, n + 1, .cons h hs => .cons h (Reps.take n hs)
theorem Reps.drop : ∀ {xs : List PV} {vs : List V} (n : Nat), Reps K mg ι H xs vs → Reps K mg ι H (xs.drop n) (vs.drop n)
  | _, _, 0, h => h
  | _, _, _ + 1, .nil => .nil
  | _, _, n + 1, .cons _ hs => Reps.drop n hs
theorem Reps.reverse : ∀ {xs : List PV} {vs : List V}, Reps K mg ι H xs vs → Reps K mg ι H xs.reverse vs.reverse
  | _, _, .nil => .nil
  | _, _, .cons h hs => by
    rw [List.reverse_cons, List.reverse_cons]
    exact Reps.append (Reps.reverse hs) (.cons h .nil)
theorem Reps.rep {xs : List PV} {vs : List V} (h : Reps K mg ι H xs vs) : ∀ k : Nat, Reps K mg ι H (List.replicate k xs).flatten (List.replicate k vs).flatten
  | 0 => .nil
  | k + 1 => by
    rw [List.replicate_succ, List.replicate_succ, List.flatten_cons, List.flatten_cons]
    exact Reps.append h (Reps.rep h k)
theorem Reps.ints : ∀ {xs : List PV} {vs : List V} {ns : List Int}, Reps K mg ι H xs vs → intsOf xs = some ns → vs = ns.map V.int
  | _, _, _, .nil, e => by simp [intsOf] at e; subst e; rfl
  | _, _, ns, .cons (xs := r) h hs, e => by
    cases h with
    | int i =>
      simp only [intsOf] at e
      cases e2 : intsOf r with
      | none => rw [e2] at e; cases e
      | some is =>
        rw [e2] at e
        cases e
        rw [Reps.ints hs e2]
        rfl
    | _ => simp [intsOf] at e
theorem Reps.bools : ∀ {xs : List PV} {vs : List V} {ns : List Bool}, Reps K mg ι H xs vs → boolsOf xs = some ns → vs = ns.map V.bl
  | _, _, _, .nil, e => by simp [boolsOf] at e; subst e; rfl
  | _, _, ns, .cons (xs := r) h hs, e => by
    cases h with
    | bl i =>
      simp only [boolsOf] at e
      cases e2 : boolsOf r with
      | none => rw [e2] at e; cases e
      | some is =>
        rw [e2] at e
        cases e
        rw [Reps.bools hs e2]
        rfl
    | _ => simp [boolsOf] at e

/-! ### the heap grows -/
/-- a new thing that the store does not know -/
theorem Grow.lay {p : Addr} {o : HO} (h : H p = none) : Grow ι H ι (upd H p o) :=
  ⟨List.prefix_refl _, fun _ h => .inl h, fun b u e _ => by rw [upd_ne (ne_of_none e h)]; exact e⟩
theorem RepO.grow (R : Rel K mg ι H st) (g : Grow ι H ι' H') {a : Addr} {o : MO} (h : RepO K mg ι H a o) (e : H' a = H a) : RepO K mg ι' H' a o := by
  cases o with
  | lst xs => obtain ⟨vs, h1, h2⟩ := h; exact ⟨vs, e.trans h1, h2.grow R g⟩
  | dct kvs => obtain ⟨kws, h1, h2, h3⟩ := h; exact ⟨kws, e.trans h1, h2, h3.grow R g⟩
theorem Rel.lay (R : Rel K mg ι H st) {p : Addr} {o : HO} (h : H p = none) : Rel K mg ι (upd H p o) st :=
  ⟨R.len, R.nd, fun n a e => by
    obtain ⟨u, h1, h2⟩ := R.obj n a e
    refine ⟨u, h1, h2.grow R (Grow.lay h) ?_⟩
    rw [upd_ne]
    rintro rfl
    exact R.fresh h (List.mem_of_getElem? e), R.out⟩
/-- a list that stands becomes one of the store's -/
theorem Rel.push (R : Rel K mg ι H st) {p : Addr} {xs : List PV} {vs : List V} (h : H p = some (.lst vs)) (hp : p ∉ ι) (hs : Reps K mg ι H xs vs) :
    Rel K mg (ι ++ [p]) H (st.push (.lst xs)) := by
  have hw : Grow ι H (ι ++ [p]) H → True := fun _ => trivial
  have mono : ∀ {x v}, Rep K mg ι H x v → Rep K mg (ι ++ [p]) H x v := by
    intro x v hx
    exact Rep.rec (motive_1 := fun x v _ => Rep K mg (ι ++ [p]) H x v) (motive_2 := fun xs vs _ => Reps K mg (ι ++ [p]) H xs vs)
      .non (fun b => .bl b) (fun i => .int i) (fun x => .str x) (fun a _ b => .tup a b)
      (fun {n a} e => .obj (by rw [List.getElem?_append_left (List.getElem?_eq_some_iff.mp e).1]; exact e)) (fun t => .ty t) (fun e => .glo e) (fun a _ b => .rol a b) (fun d => .shw d) .nil (fun _ _ a b => .cons a b) hx
  have monos : ∀ {xs vs}, Reps K mg ι H xs vs → Reps K mg (ι ++ [p]) H xs vs := by
    intro x v hx
    exact Reps.rec (motive_1 := fun x v _ => Rep K mg (ι ++ [p]) H x v) (motive_2 := fun xs vs _ => Reps K mg (ι ++ [p]) H xs vs)
      .non (fun b => .bl b) (fun i => .int i) (fun x => .str x) (fun a _ b => .tup a b)
      (fun {n a} e => .obj (by rw [List.getElem?_append_left (List.getElem?_eq_some_iff.mp e).1]; exact e)) (fun t => .ty t) (fun e => .glo e) (fun a _ b => .rol a b) (fun d => .shw d) .nil (fun _ _ a b => .cons a b) hx
  refine ⟨by simp [Store.push, R.len], ?_, fun n a e => ?_, fun n hn' => ?_⟩
  · rw [List.nodup_append]
    refine ⟨R.nd, by simp, fun a ha b hb => ?_⟩
    simp at hb
    subst hb
    rintro rfl
    exact hp ha
  · by_cases hlt : n < ι.length
    · rw [List.getElem?_append_left hlt] at e
      obtain ⟨u, h1, h2⟩ := R.obj n a e
      refine ⟨u, ?_, ?_⟩
      · rw [Store.get_push_ne (by rw [← R.len]; omega)]
        exact h1
      · cases u with
        | lst xs => obtain ⟨vs, a1, a2⟩ := h2; exact ⟨vs, a1, monos a2⟩
        | dct kvs => obtain ⟨kws, a1, a2, a3⟩ := h2; exact ⟨kws, a1, a2, monos a3⟩
    · rw [List.getElem?_append_right (by omega)] at e
      have e0 : n - ι.length = 0 := by
        cases hk : n - ι.length with
        | zero => rfl
        | succ k => rw [hk] at e; simp at e
      rw [e0] at e
      simp at e
      subst e
      have en : n = st.n := by rw [← R.len]; omega
      refine ⟨.lst xs, ?_, vs, h, monos hs⟩
      rw [en, Store.get_push_same]
  · have h1 : st.n + 1 ≤ n := hn'
    rw [Store.get_push_ne (by omega)]
    exact R.out n (by omega)
theorem Grow.push (R : Rel K mg ι H st) {p : Addr} (h : H p ≠ none → False) : Grow ι H (ι ++ [p]) H :=
  ⟨List.prefix_append _ _, fun a ha => by
    rcases List.mem_append.mp ha with h1 | h1
    · exact .inl h1
    · simp at h1
      subst h1
      right
      cases e : H a with
      | none => rfl
      | some o => exact absurd (by rw [e]; exact fun z => nomatch z) h, fun _ _ e _ => e⟩
/-- an object of the store is written -/
theorem Rel.put (R : Rel K mg ι H st) {n : Nat} {a : Addr} {xs : List PV} {vs : List V} (e : ι[n]? = some a) (hs : Reps K mg ι H xs vs) :
    Rel K mg ι (upd H a (.lst vs)) (st.put n (.lst xs)) ∧ Grow ι H ι (upd H a (.lst vs)) := by
  have ha : a ∈ ι := List.mem_of_getElem? e
  have g : Grow ι H ι (upd H a (.lst vs)) := ⟨List.prefix_refl _, fun _ h => .inl h, fun b u q hb => by
    rw [upd_ne]
    · exact q
    · rintro rfl
      exact hb ha⟩
  have hn : n < ι.length := (List.getElem?_eq_some_iff.mp e).1
  refine ⟨⟨R.len, R.nd, fun m b q => ?_, fun m hm => ?_⟩, g⟩
  · by_cases hm : n = m
    · subst hm
      rw [e] at q
      cases q
      exact ⟨.lst xs, Store.get_put_same, vs, upd_same, hs.grow R g⟩
    · obtain ⟨u, h1, h2⟩ := R.obj m b q
      refine ⟨u, by rw [Store.get_put_ne hm]; exact h1, h2.grow R g ?_⟩
      rw [upd_ne]
      rintro rfl
      have i1 := (List.getElem?_eq_some_iff.mp e)
      have i2 := (List.getElem?_eq_some_iff.mp q)
      obtain ⟨l1, k1⟩ := i1
      obtain ⟨l2, k2⟩ := i2
      exact hm ((List.getElem_inj R.nd).mp (k1.trans k2.symm))
  · have hm' : st.n ≤ m := hm
    rw [Store.get_put_ne (by have := R.len; omega)]
    exact R.out m hm'
end

/-! ### slots -/
structure RelS (K : PySem.W.Frag) (mg : Str → Option Value) (ι : List Addr) (H : Hp) (env : Env) (σ : St) : Prop where
  len : env.length = σ.length
  get : ∀ i x, getS env i = some x → ∃ v, σ[i]? = some (some v) ∧ Rep K mg ι H x v
section
variable {K : PySem.W.Frag} {mg : Str → Option Value} {ι ι' : List Addr} {H H' : Hp} {st : Store} {env : Env} {σ : St}
theorem RelS.grow (S : RelS K mg ι H env σ) (R : Rel K mg ι H st) (g : Grow ι H ι' H') : RelS K mg ι' H' env σ := ⟨S.len, fun i x e => by
  obtain ⟨v, h1, h2⟩ := S.get i x e
  exact ⟨v, h1, h2.grow R g⟩⟩
theorem setS_length (v : PV) : ∀ (env : Env) (i : Nat), (setS v env i).length = env.length
  | [], _ => rfl
  | _ :: _, 0 => rfl
  | _ :: r, i + 1 => congrArg (· + 1) (setS_length v r i)
theorem unS_length : ∀ (env : Env) (i : Nat), (unS env i).length = env.length
  | [], _ => rfl
  | _ :: _, 0 => rfl
  | _ :: r, i + 1 => congrArg (· + 1) (unS_length r i)
theorem getS_lt : ∀ {env : Env} {i : Nat} {x : PV}, getS env i = some x → i < env.length
  | [], _, _, e => by simp [getS] at e
  | _ :: _, 0, _, _ => by simp
  | _ :: r, i + 1, x, e => by
    have := getS_lt (env := r) (i := i) (x := x) (by simpa [getS] using e)
    simp
    exact this
theorem getS_setS {v : PV} : ∀ {env : Env} {i k : Nat} {x : PV}, getS (setS v env i) k = some x → (i = k ∧ x = v) ∨ (i ≠ k ∧ getS env k = some x)
  | [], _, _, _, e => by simp [setS, getS] at e
  | _ :: _, 0, 0, _, e => by simp [setS, getS] at e; exact .inl ⟨rfl, e.symm⟩
  | _ :: _, 0, k + 1, _, e => .inr ⟨by omega, by simpa [setS, getS] using e⟩
  | _ :: _, i + 1, 0, _, e => .inr ⟨by omega, by simpa [setS, getS] using e⟩
  | _ :: r, i + 1, k + 1, x, e => by
    rcases getS_setS (env := r) (i := i) (k := k) (x := x) (by simpa [setS, getS] using e) with ⟨h1, h2⟩ | ⟨h1, h2⟩
    · exact .inl ⟨by omega, h2⟩
    · exact .inr ⟨by omega, by simpa [getS] using h2⟩
theorem getS_unS : ∀ {env : Env} {i k : Nat} {x : PV}, getS (unS env i) k = some x → i ≠ k ∧ getS env k = some x
  | [], _, _, _, e => by simp [unS, getS] at e
  | _ :: _, 0, 0, _, e => by simp [unS, getS] at e
  | _ :: _, 0, k + 1, _, e => ⟨by omega, by simpa [unS, getS] using e⟩
  | _ :: _, i + 1, 0, _, e => ⟨by omega, by simpa [unS, getS] using e⟩
  | _ :: r, i + 1, k + 1, x, e => by
    obtain ⟨h1, h2⟩ := getS_unS (env := r) (i := i) (k := k) (x := x) (by simpa [unS, getS] using e)
    exact ⟨by omega, by simpa [getS] using h2⟩
theorem RelS.set (S : RelS K mg ι H env σ) {i : Nat} {x : PV} {v : V} (h : Rep K mg ι H x v) : RelS K mg ι H (setS x env i) (σ.set i (some v)) := by
  refine ⟨by rw [setS_length, List.length_set, S.len], fun k y e => ?_⟩
  rcases getS_setS e with ⟨rfl, rfl⟩ | ⟨h1, h2⟩
  · have hi : i < σ.length := by
      have := getS_lt e
      rw [setS_length, S.len] at this
      exact this
    exact ⟨v, by rw [List.getElem?_set_self hi], h⟩
  · obtain ⟨u, h3, h4⟩ := S.get k y h2
    exact ⟨u, by rw [List.getElem?_set_ne h1]; exact h3, h4⟩
theorem RelS.un (S : RelS K mg ι H env σ) {i : Nat} : RelS K mg ι H (unS env i) (σ.set i none) := by
  refine ⟨by rw [unS_length, List.length_set, S.len], fun k y e => ?_⟩
  obtain ⟨h1, h2⟩ := getS_unS e
  obtain ⟨u, h3, h4⟩ := S.get k y h2
  exact ⟨u, by rw [List.getElem?_set_ne h1]; exact h3, h4⟩
theorem RelS.wipe (S : RelS K mg ι H env σ) : ∀ vs : List Nat, RelS K mg ι H (wipeS env vs) (wipe σ vs)
  | [] => S
  | _ :: vs => (RelS.wipe S vs).un
end
end Ev

namespace Ev
open PySem L2

theorem Grow.snoc {ι ι' : List Addr} {H H' : Hp} (g : Grow ι H ι' H') {p : Addr} (h : H p = none) : Grow ι H (ι' ++ [p]) H' :=
  ⟨g.pre.trans (List.prefix_append _ _), fun a ha => by
    rcases List.mem_append.mp ha with h1 | h1
    · exact g.new a h1
    · simp at h1
      subst h1
      exact .inr h, g.ext⟩
section
variable {K : PySem.W.Frag} {mg : Str → Option Value}
theorem Rel.back {ι ι1 : List Addr} {H H1 : Hp} {st1 : Store} (R : Rel K mg ι1 H1 st1) (g : Grow ι H ι1 H1) {p : Addr} (h : H1 p = none) : H p = none := by
  cases e : H p with
  | none => rfl
  | some o =>
    by_cases hp : p ∈ ι
    · obtain ⟨t, q⟩ := g.pre
      exact absurd (by rw [← q]; exact List.mem_append_left _ hp) (R.fresh h)
    · rw [g.ext p o e hp] at h
      cases h

/-- an exception as it lies -/
def RepX (K : PySem.W.Frag) (mg : Str → Option Value) (ι : List Addr) (H : Hp) (x : Exn) (cls : Value) (d : Option Addr) : Prop :=
  mg x.cls = some cls ∧ ((x.fs = [] ∧ d = none) ∨ ∃ a fs, d = some a ∧ H a = some (.xd fs) ∧ a ∉ ι ∧ x.fs.map (·.1) = fs.map (·.1) ∧ Reps K mg ι H (x.fs.map (·.2)) (fs.map (·.2)))

/-- a kind of result: how a plain one stands for the model's -/
structure Kd (K : PySem.W.Frag) (mg : Str → Option Value) (α β : Type) where
  rr : Hp → List Addr → Hp → Store → α → β → Prop
  back : ∀ {ι H ι1 H1 st1 ι' H' st' a b}, Grow ι H ι1 H1 → Rel K mg ι1 H1 st1 → rr H1 ι' H' st' a b → rr H ι' H' st' a b

def Post {α β : Type} (k : Kd K mg α β) (W : WX) (σ : St) (ι : List Addr) (H : Hp) (Q : β → Hp → Prop) : Res α → Prop
  | .ok a st => ∀ b ι' H', Grow ι H ι' H' → Rel K mg ι' H' st → k.rr H ι' H' st a b → Q b H'
  | .exc x st => ∀ cls d ι' H', Grow ι H ι' H' → Rel K mg ι' H' st → RepX K mg ι' H' x cls d → W cls d σ H'
  | .stuck => False

variable {α β γ δ : Type} {k : Kd K mg α β} {k1 : Kd K mg α β} {k2 : Kd K mg γ δ} {W : WX} {σ : St} {ι ι1 : List Addr} {H H1 : Hp} {st1 : Store}
theorem Post.grow {Q : β → Hp → Prop} {r : Res α} (p : Post k W σ ι H Q r) (g : Grow ι H ι1 H1) (R : Rel K mg ι1 H1 st1) : Post k W σ ι1 H1 Q r := by
  cases r with
  | ok a st => exact fun b ι' H' g' R' h => p b ι' H' (g.trans g') R' (k.back g R h)
  | exc x st => exact fun cls d ι' H' g' R' h => p cls d ι' H' (g.trans g') R' h
  | stuck => exact p
theorem Post.mono {Q Q' : β → Hp → Prop} {r : Res α} (p : Post k W σ ι H Q r) (h : ∀ b H', Q b H' → Q' b H') : Post k W σ ι H Q' r := by
  cases r with
  | ok a st => exact fun b ι' H' g' R' z => h _ _ (p b ι' H' g' R' z)
  | exc x st => exact p
  | stuck => exact p
theorem Post.bind {Q : δ → Hp → Prop} {Q' : β → Hp → Prop} {r : Res α} {f : α → Store → Res γ} (p : Post k2 W σ ι H Q (r.bind f))
    (hk : ∀ ι1 a st1 b H1, Grow ι H ι1 H1 → Rel K mg ι1 H1 st1 → k1.rr H ι1 H1 st1 a b → Post k2 W σ ι1 H1 Q (f a st1) → Q' b H1) : Post k1 W σ ι H Q' r := by
  cases r with
  | ok a st => exact fun b ι1 H1 g R h => hk ι1 a st b H1 g R h (Post.grow p g R)
  | exc x st => exact p
  | stuck => exact p
/-- here, now -/
theorem Post.here {Q : β → Hp → Prop} {a : α} {b : β} {st : Store} (p : Post k W σ ι H Q (.ok a st)) (R : Rel K mg ι H st) (h : k.rr H ι H st a b) : Q b H := p b ι H (Grow.refl _ _) R h
/-- with a thing laid anew -/
theorem Post.lay {Q : β → Hp → Prop} {a : α} {b : β} {st : Store} {q : Addr} {o : HO} (p : Post k W σ ι H Q (.ok a st)) (R : Rel K mg ι H st) (hq : H q = none) (h : k.rr H ι (upd H q o) st a b) : Q b (upd H q o) :=
  p b ι _ (Grow.lay hq) (R.lay hq) h

/-- what an evaluator's run says to a reading -/
def Rd (k : Kd K mg α β) (W : WX) (m : Env → Store → Res α) (σ : St) (H : Hp) (Q : β → Hp → Prop) : Prop :=
  ∃ ι env st, RelS K mg ι H env σ ∧ Rel K mg ι H st ∧ Post k W σ ι H Q (m env st)
theorem Rd.mono {m : Env → Store → Res α} {Q Q' : β → Hp → Prop} (h : Rd k W m σ H Q) (q : ∀ b H', Q b H' → Q' b H') : Rd k W m σ H Q' := by
  obtain ⟨ι, env, st, S, R, p⟩ := h
  exact ⟨ι, env, st, S, R, p.mono q⟩

/-! ### the kinds -/
def kE : Kd K mg PV V := ⟨fun _ ι H _ x v => Rep K mg ι H x v, fun _ _ h => h⟩
def kB : Kd K mg Bool Bool := ⟨fun _ _ _ _ x v => x = v, fun _ _ h => h⟩
def kU : Kd K mg Unit Unit := ⟨fun _ _ _ _ _ _ => True, fun _ _ h => h⟩
def kO : Kd K mg (Option Int) (Option Int) := ⟨fun _ _ _ _ x v => x = v, fun _ _ h => h⟩
def kA : Kd K mg (List PV) (List V) := ⟨fun _ ι H _ x v => Reps K mg ι H x v, fun _ _ h => h⟩
/-- a sequence: where it lies -/
def LRep (K : PySem.W.Frag) (mg : Str → Option Value) (H0 : Hp) (ι : List Addr) (H : Hp) (st : Store) (q : Src × List PV) (v : V) : Prop :=
  ∃ a vs, v = .ref a ∧ Reps K mg ι H q.2 vs ∧ (match q.1 with
    | .tup => SqT K H a vs
    | .tmp => H a = some (.lst vs) ∧ a ∉ ι ∧ H0 a = none
    | .obj n => ι[n]? = some a ∧ st.get n = some (.lst q.2) ∧ H a = some (.lst vs)
    | .rol => SqR K H a vs)
def kL : Kd K mg (Src × List PV) V := ⟨LRep K mg, fun {ι H ι1 H1 st1 ι' H' st' q v} g R h => by
  obtain ⟨a, vs, e, hs, h⟩ := h
  refine ⟨a, vs, e, hs, ?_⟩
  obtain ⟨src, xs⟩ := q
  cases src with
  | tup => exact h
  | tmp => exact ⟨h.1, h.2.1, R.back g h.2.2⟩
  | obj n => exact h
  | rol => exact h⟩
theorem LRep.sq {H0 : Hp} {H : Hp} {st : Store} {q : Src × List PV} {v : V} (h : LRep K mg H0 ι H st q v) : ∃ a vs, v = .ref a ∧ Reps K mg ι H q.2 vs ∧ (SqL K H a vs ∨ SqT K H a vs) := by
  obtain ⟨a, vs, e, hs, h⟩ := h
  refine ⟨a, vs, e, hs, ?_⟩
  obtain ⟨src, xs⟩ := q
  cases src with
  | tup => exact .inr h
  | tmp => exact .inl (SqL.of h.1)
  | obj n => exact .inl (SqL.of h.2.2)
  | rol => exact .inl (SqR.sqL h)
theorem LRep.lst {H0 : Hp} {H : Hp} {st : Store} {q : Src × List PV} {v : V} (h : LRep K mg H0 ι H st q v) (hl : isLst q.1 = true) : ∃ a vs, v = .ref a ∧ Reps K mg ι H q.2 vs ∧ SqL K H a vs := by
  obtain ⟨a, vs, e, hs, h⟩ := h
  refine ⟨a, vs, e, hs, ?_⟩
  obtain ⟨src, xs⟩ := q
  cases src with
  | tup => cases hl
  | tmp => exact SqL.of h.1
  | obj n => exact SqL.of h.2.2
  | rol => exact SqR.sqL h
theorem items_rep {H : Hp} {st : Store} {H0 : Hp} (R : Rel K mg ι H st) {x : PV} {v : V} {q : Src × List PV} (h : Rep K mg ι H x v) (e : items x st = some q) : LRep K mg H0 ι H st q v := by
  cases h with
  | tup h hs => simp [items] at e; subst e; exact ⟨_, _, rfl, hs, h⟩
  | rol h hs => simp [items] at e; subst e; exact ⟨_, _, rfl, hs, h⟩
  | @obj n a h =>
    simp only [items] at e
    obtain ⟨o, ho, hr⟩ := R.obj n a h
    rw [ho] at e
    cases o with
    | dct kvs => cases e
    | lst xs =>
      cases e
      obtain ⟨vs, h1, h2⟩ := hr
      exact ⟨a, vs, rfl, h2, h, ho, h1⟩
  | _ => simp [items] at e
end

/-! ### judgements by the evaluator -/
section
variable (X : Cx) (W : WX)
def SE (e : Expr) (m : Env → Store → Res PV) : Prop := PE X e (fun σ H Q => Rd (kE (K := X.K) (mg := X.mg)) W m σ H Q)
def SB (e : Expr) (m : Env → Store → Res Bool) : Prop := PT X e (fun σ H Q => Rd (kB (K := X.K) (mg := X.mg)) W m σ H Q)
def SA (es : List Expr) (m : Env → Store → Res (List PV)) : Prop := PA X es (fun σ H Q => Rd (kA (K := X.K) (mg := X.mg)) W m σ H Q)
def SQ (e : Expr) (m : Env → Store → Res (Src × List PV)) : Prop := PE X e (fun σ H Q => Rd (kL (K := X.K) (mg := X.mg)) W m σ H Q)
end
theorem _root_.L2.PE.imp {X : Cx} {e : Expr} {t t' : TE} (h : PE X e t) (i : ∀ σ H Q, t' σ H Q → t σ H Q) : PE X e t' := ⟨fun pins s σ H Q I q => h.run pins s σ H Q I (i σ H Q q)⟩
theorem _root_.L2.PT.imp {X : Cx} {e : Expr} {t t' : TT} (h : PT X e t) (i : ∀ σ H Q, t' σ H Q → t σ H Q) : PT X e t' := ⟨fun pins s σ H Q I q => h.run pins s σ H Q I (i σ H Q q)⟩
theorem _root_.L2.PA.imp {X : Cx} {e : List Expr} {t t' : TA} (h : PA X e t) (i : ∀ σ H Q, t' σ H Q → t σ H Q) : PA X e t' := ⟨fun pos pins s σ H Q I q => h.run pos pins s σ H Q I (i σ H Q q)⟩
theorem _root_.L2.PS.imp {X : Cx} {e : Stmt} {t t' : TS} (h : PS X e t) (i : ∀ D σ H, t' D σ H → t D σ H) : PS X e t' := ⟨fun pins s σ H D I q => h.run pins s σ H D I (i D σ H q)⟩
theorem _root_.L2.PSs.imp {X : Cx} {e : List Stmt} {t t' : TS} (h : PSs X e t) (i : ∀ D σ H, t' D σ H → t D σ H) : PSs X e t' := ⟨fun pins s σ H D I q => h.run pins s σ H D I (i D σ H q)⟩
theorem _root_.L2.OpR.imp {X : Cx} {f : Value → Value → Sem Value} {r r' : R2} (h : OpR X f r) (i : ∀ x y H Q, r' x y H Q → r x y H Q) : OpR X f r' :=
  fun pins s σ H x y v u Q I rx ry q => h pins s σ H x y v u Q I rx ry (i x y H Q q)
theorem _root_.L2.UnR.imp {X : Cx} {f : Value → Sem Value} {r r' : V → Hp → VK → Prop} (h : UnR X f r) (i : ∀ x H Q, r' x H Q → r x H Q) : UnR X f r' :=
  fun pins s σ H x v Q I rx q => h pins s σ H x v Q I rx (i x H Q q)
theorem _root_.L2.CallR.imp {X : Cx} {f : Value} {r r' : List V → Hp → VK → Prop} (h : CallR X f r) (i : ∀ x H Q, r' x H Q → r x H Q) : CallR X f r' :=
  fun pins s σ H x v Q I rx q => h pins s σ H x v Q I rx (i x H Q q)

/-- two values, an evaluator's operation -/
def rOp (K : PySem.W.Frag) (mg : Str → Option Value) (W : WX) (g : PV → PV → Store → Res PV) : R2 := fun x y H Q =>
  ∃ σ ι px py st, Rel K mg ι H st ∧ Rep K mg ι H px x ∧ Rep K mg ι H py y ∧ Post (kE (K := K) (mg := mg)) W σ ι H Q (g px py st)
section
variable {X : Cx} {W : WX} {a b : Expr} {ma mb : Env → Store → Res PV} {pos : Pos}
/-- two expressions, then an operation on their values -/
theorem rd_two {g : PV → PV → Store → Res PV} {σ : St} {H : Hp} {Q : VK} (h : Rd (kE (K := X.K) (mg := X.mg)) W (fun env st => (ma env st).bind fun x st1 => (mb env st1).bind fun y st2 => g x y st2) σ H Q) :
    Rd (kE (K := X.K) (mg := X.mg)) W ma σ H fun x H1 => Rd (kE (K := X.K) (mg := X.mg)) W mb σ H1 fun y H2 => rOp X.K X.mg W g x y H2 Q := by
  obtain ⟨ι, env, st, S, R, p⟩ := h
  refine ⟨ι, env, st, S, R, p.bind fun ι1 px st1 x H1 g1 R1 rx p1 => ?_⟩
  refine ⟨ι1, env, st1, S.grow R g1, R1, p1.bind fun ι2 py st2 y H2 g2 R2 ry p2 => ?_⟩
  exact ⟨σ, ι2, px, py, st2, R2, Rep.grow R1 g2 rx, ry, p2⟩
theorem se_op {op : Operator} {g : PV → PV → Store → Res PV} (ho : OpR X (binaryOp op) (rOp X.K X.mg W g)) (ha : SE X W a ma) (hb : SE X W b mb) :
    SE X W (.BinOp a op b pos) (fun env st => (ma env st).bind fun x st1 => (mb env st1).bind fun y st2 => g x y st2) :=
  (pe_op ho ha hb).imp fun _ _ _ h => rd_two h
theorem se_cmp {op : CmpOp} {g : PV → PV → Store → Res PV} (ho : OpR X (compareOp op) (rOp X.K X.mg W g)) (ha : SE X W a ma) (hb : SE X W b mb) (hm : behindInMarks op b = false) :
    SE X W (.Compare a [op] [b] pos) (fun env st => (ma env st).bind fun x st1 => (mb env st1).bind fun y st2 => g x y st2) :=
  (pe_cmpR ho ha hb hm).imp fun _ _ _ h => rd_two h
end
end Ev

namespace Ev
open PySem PySem.Spec PyProof.Rows L2

section
variable {K : PySem.W.Frag} {mg : Str → Option Value} {W : WX} {σ : L2.St} {ι : List Addr} {H : Hp} {st : Store} {Q : VK}
/-- a list is laid and known from now on -/
theorem post_alloc {xs : List PV} {vs : List V} (p : Post (kE (K := K) (mg := mg)) W σ ι H Q (allocL xs st)) (R : Rel K mg ι H st) (hs : Reps K mg ι H xs vs) {q : Addr} (hq : H q = none) : Q (.ref q) (upd H q (.lst vs)) := by
  have g : Grow ι H (ι ++ [q]) (upd H q (.lst vs)) := (Grow.lay hq).snoc hq
  refine p _ _ _ g ((R.lay hq).push upd_same (R.fresh hq) (hs.grow R (Grow.lay hq))) (.obj ?_)
  rw [List.getElem?_append_right (by rw [R.len]; exact Nat.le_refl _), R.len, Nat.sub_self]
  rfl
theorem post_tup {xs : List PV} {vs : List V} (p : Post (kE (K := K) (mg := mg)) W σ ι H Q (.ok (.tup xs) st)) (R : Rel K mg ι H st) (hs : Reps K mg ι H xs vs) {q : Addr} (hq : H q = none) : Q (.ref q) (upd H q (.tup vs)) :=
  p.lay R hq (.tup (.inl (.inl upd_same)) (hs.grow R (Grow.lay hq)))
theorem Reps.nil_iff {xs : List PV} {vs : List V} (h : Reps K mg ι H xs vs) : xs = [] ↔ vs = [] := by
  cases h <;> simp
theorem Rel.lst (R : Rel K mg ι H st) {n : Nat} {a : Addr} {xs : List PV} (e : ι[n]? = some a) (h : st.get n = some (.lst xs)) : ∃ vs, H a = some (.lst vs) ∧ Reps K mg ι H xs vs := by
  obtain ⟨o, h1, h2⟩ := R.obj n a e
  rw [h] at h1
  cases h1
  exact h2
end

section
variable {X : Cx} {W : WX}
theorem or_add : OpR X (binaryOp .Add) (rOp X.K X.mg W (evBin .add)) := by
  refine (OpR.or op_add (OpR.or op_add_str (OpR.or op_catA op_cat))).imp fun x y H Q h => ?_
  obtain ⟨σ, ι, px, py, st, R, rx, ry, p⟩ := h
  simp only [evBin] at p
  split at p
  · cases rx; cases ry
    exact .inl ⟨_, _, rfl, rfl, p.here R (.int _)⟩
  · split at p
    · rename_i hl
      cases rx; cases ry
      exact .inr (.inl ⟨_, _, rfl, rfl, hl, p.here R (.str _)⟩)
    · exact p.elim
  · rename_i xs ys
    split at p
    · rename_i hl
      cases rx with
      | tup s1 r1 =>
        cases ry with
        | tup s2 r2 =>
          refine .inr (.inr (.inl ⟨_, _, _, _, rfl, rfl, s1, s2, by rw [← r1.length, ← r2.length]; exact hl, fun e => ?_, fun _ e => ?_, fun _ _ q hq => post_tup p R (r1.append r2) hq⟩))
          · have e1 := r1.nil_iff.mpr e
            subst e1
            exact p.here R (.tup s2 r2)
          · have e1 := r2.nil_iff.mpr e
            subst e1
            rw [List.append_nil] at p
            exact p.here R (.tup s1 r1)
    · exact p.elim
  · rename_i m n
    split at p
    · rename_i xs ys hm hn
      split at p
      · rename_i hl
        cases rx with
        | obj e1 =>
          cases ry with
          | obj e2 =>
            obtain ⟨vs, h1, r1⟩ := R.lst e1 hm
            obtain ⟨ws, h2, r2⟩ := R.lst e2 hn
            exact .inr (.inr (.inr ⟨_, _, _, _, rfl, rfl, h1, h2, by rw [← r1.length, ← r2.length]; exact hl, fun q hq => post_alloc p R (r1.append r2) hq⟩))
      · exact p.elim
    · exact p.elim
  · exact p.elim
theorem or_sub : OpR X (binaryOp .Sub) (rOp X.K X.mg W (evBin .sub)) := by
  refine op_sub.imp fun x y H Q h => ?_
  obtain ⟨σ, ι, px, py, st, R, rx, ry, p⟩ := h
  simp only [evBin] at p
  split at p
  · cases rx; cases ry
    exact ⟨_, _, rfl, rfl, p.here R (.int _)⟩
  · exact p.elim
theorem tuple_mul1 (l : Addr) (items : Array Value) (n : Nat) (dd : Option Addr) (sl : Array (Option Value)) (u : Tok) :
    Meets (Builtin.«tuple.__mul__» ⟨[.ref l, .int 1 u], []⟩) (fun _ R s => s.heap.get? l = some { cls := .type "tuple", dict := dd, data := .seq items n, slots := sl } ∧ R (.ok (.ret (Value.ref l))) s) :=
  .of_wp fun prog w A R s h => by
    obtain ⟨hp, g, d, tk, os⟩ := s
    obtain ⟨hl, h⟩ := h
    have f1 := PySem.AutoSeq1.idx_int
    wp_walk using PySem.wpAny_loadPart' hl
    repeat (first
      | (refine PySem.wpAny_ite_false (decide_eq_false (by decide)) ?_; wp_walk using PySem.wpAny_loadPart' hl)
      | (refine PySem.wpAny_ite_true (decide_eq_true (by simp)) ?_; wp_walk using PySem.wpAny_loadPart' hl))
    exact ⟨_, rfl, h⟩
/-- t * 1 is t -/
def rRep1 (K : PySem.W.Frag) : R2 := fun x y H Q => ∃ l xs, x = .ref l ∧ y = .int 1 ∧ SqT K H l xs ∧ Q (.ref l) H
theorem op_rep1 : OpR X (binaryOp .Mult) (rRep1 X.K) := by
  intro pins s σ H x y v u Q I rx ry h
  obtain ⟨l, xs, rfl, rfl, hT, q⟩ := h
  cases rx
  obtain ⟨t, rfl⟩ := ry
  obtain ⟨its, r, ⟨⟨cls, dd, data, sl⟩, ho, hc, n, hd⟩, hs⟩ := I.tuple hT
  simp only at hc hd
  subst hc hd
  refine wpAny_binaryOp_repeat_ref (T := "tuple") (U := "int") (by decide) ⟨_, ho, rfl⟩ (fun s' => typeIs_int s' 1 t) noFill_tuple_mul F.fills_int_mul F.slot_int_rmul repeat_tuple F.slot_int_index.lookup
    (call_meets F.slot_int_rmul (typeIs_int s 1 t) F.entry_int_rmul (F.args_int_rmul_2 _ _) (int_rmul_tuple 1 t l its.toArray n dd sl)
      ⟨ho, rfl, ⟨_, ho, rfl⟩, call_meets F.slot_tuple_mul ⟨_, ho, rfl⟩ F.entry_tuple_mul (F.args_tuple_mul_2 _ _) (tuple_mul1 l its.toArray n dd sl t) ⟨ho, ?_⟩⟩)
  exact ⟨.ref l, H, I, rfl, q⟩
theorem or_mul : OpR X (binaryOp .Mult) (rOp X.K X.mg W (evBin .mul)) := by
  refine (OpR.or op_mul (OpR.or op_mulW (OpR.or op_rep (OpR.or op_repT op_rep1)))).imp fun x y H Q h => ?_
  obtain ⟨σ, ι, px, py, st, R, rx, ry, p⟩ := h
  simp only [evBin] at p
  split at p
  · rename_i i j
    split at p
    · rename_i hm
      cases rx; cases ry
      unfold mulOk at hm
      simp only [Bool.or_eq_true, decide_eq_true_eq] at hm
      rcases hm with (hm | hm) | hm
      · exact .inl ⟨_, _, rfl, rfl, .inl ⟨by omega, by omega⟩, p.here R (.int _)⟩
      · exact .inl ⟨_, _, rfl, rfl, .inr ⟨by omega, by omega⟩, p.here R (.int _)⟩
      · exact .inr (.inl ⟨_, _, rfl, rfl, hm, p.here R (.int _)⟩)
    · exact p.elim
  · rename_i m k
    split at p
    · rename_i xs hm
      split at p
      · rename_i hl
        cases rx with
        | obj e1 =>
          cases ry
          obtain ⟨vs, h1, r1⟩ := R.lst e1 hm
          exact .inr (.inr (.inl ⟨_, _, _, rfl, rfl, h1, by omega, by omega, by rw [← r1.length]; exact hl.2.2, fun q hq => post_alloc p R (r1.rep _) hq⟩))
      · exact p.elim
    · exact p.elim
  · rename_i xs k
    split at p
    · rename_i hl
      cases rx with
      | tup s1 r1 =>
        cases ry
        exact .inr (.inr (.inr (.inl ⟨_, _, _, rfl, rfl, s1, fun e => hl.1 (r1.nil_iff.mpr e), hl.2.1, hl.2.2.1, by rw [← r1.length]; exact hl.2.2.2, fun q hq => post_tup p R (r1.rep _) hq⟩)))
    · split at p
      · rename_i h1
        subst h1
        cases rx with
        | tup s1 r1 =>
          cases ry
          exact .inr (.inr (.inr (.inr ⟨_, _, rfl, rfl, s1, p.here R (.tup s1 r1)⟩)))
      · exact p.elim
  · exact p.elim
theorem or_mod : OpR X (binaryOp .Mod) (rOp X.K X.mg W (evBin .mod)) := by
  refine (OpR.or op_mod op_modN).imp fun x y H Q h => ?_
  obtain ⟨σ, ι, px, py, st, R, rx, ry, p⟩ := h
  simp only [evBin] at p
  split at p
  · split at p
    · rename_i hj
      cases rx; cases ry
      exact .inl ⟨_, _, rfl, rfl, hj, p.here R (.int _)⟩
    · split at p
      · rename_i hj
        cases rx; cases ry
        exact .inr ⟨_, _, rfl, rfl, by omega, p.here R (.int _)⟩
      · exact p.elim
  · exact p.elim
theorem or_fdiv : OpR X (binaryOp .FloorDiv) (rOp X.K X.mg W (evBin .fdiv)) := by
  refine (OpR.or op_fdiv (OpR.or op_fdivN op_fdivW)).imp fun x y H Q h => ?_
  obtain ⟨σ, ι, px, py, st, R, rx, ry, p⟩ := h
  simp only [evBin] at p
  split at p
  · split at p
    · rename_i hj
      split at p
      · rename_i hj2
        cases rx; cases ry
        exact .inl ⟨_, _, rfl, rfl, ⟨hj, hj2⟩, p.here R (.int _)⟩
      · split at p
        · rename_i hj3
          cases rx; cases ry
          exact .inr (.inr ⟨_, _, rfl, rfl, ⟨hj, hj3⟩, p.here R (.int _)⟩)
        · exact p.elim
    · split at p
      · rename_i hj
        cases rx; cases ry
        exact .inr (.inl ⟨_, _, rfl, rfl, ⟨by omega, by omega⟩, p.here R (.int _)⟩)
      · exact p.elim
  · exact p.elim
theorem or_pow : OpR X (binaryOp .Pow) (rOp X.K X.mg W (evBin .pow)) := by
  refine op_pow.imp fun x y H Q h => ?_
  obtain ⟨σ, ι, px, py, st, R, rx, ry, p⟩ := h
  simp only [evBin] at p
  split at p
  · split at p
    · rename_i hj
      cases rx; cases ry
      exact ⟨_, _, rfl, rfl, ⟨hj.1, by omega, hj.2.2⟩, p.here R (.int _)⟩
    · exact p.elim
  · exact p.elim
def opOf : Bop → Operator
  | .add => .Add | .sub => .Sub | .mul => .Mult | .mod => .Mod | .fdiv => .FloorDiv | .pow => .Pow
theorem or_bin (op : Bop) : OpR X (binaryOp (opOf op)) (rOp X.K X.mg W (evBin op)) := by
  cases op
  · exact or_add
  · exact or_sub
  · exact or_mul
  · exact or_mod
  · exact or_fdiv
  · exact or_pow
end

mutual
theorem sameD_eq : ∀ {d e : PyData}, sameD d e = true → d = e
  | .none, e, h => by cases e <;> simp [sameD] at h; rfl
  | .bool a, e, h => by cases e <;> simp [sameD] at h; rw [h]
  | .int a, e, h => by cases e <;> simp [sameD] at h; rw [h]
  | .str a, e, h => by cases e <;> simp [sameD] at h; rw [h]
  | .list a, e, h => by
    cases e <;> simp [sameD] at h
    rw [sameDs_eq h]
  | .tuple a, e, h => by
    cases e <;> simp [sameD] at h
    rw [sameDs_eq h]
  | .dict a, e, h => by cases e <;> simp [sameD] at h
theorem sameDs_eq : ∀ {d e : List PyData}, sameDs d e = true → d = e
  | [], e, h => by cases e <;> simp [sameDs] at h; rfl
  | x :: xs, e, h => by
    cases e with
    | nil => simp [sameDs] at h
    | cons y ys =>
      simp only [sameDs, Bool.and_eq_true] at h
      rw [sameD_eq h.1, sameDs_eq h.2]
end
/-! ### data -/
section
variable {K : PySem.W.Frag} {mg : Str → Option Value} {ι : List Addr} {H : Hp} {st : Store}
theorem toD_ok (R : Rel K mg ι H st) : ∀ (n : Nat) (x : PV) (v : V) (d : PyData), Rep K mg ι H x v → toD st n x = some d → Dp K H v d ∧ d.canLay0 = true ∧ d.depth ≤ n := by
  intro n
  induction n with
  | zero =>
    intro x v d h e
    cases h with
    | non => simp [toD] at e; subst e; exact ⟨.non, rfl, Nat.le_refl _⟩
    | bl b => simp [toD] at e; subst e; exact ⟨.bl b, rfl, Nat.le_refl _⟩
    | int i => simp [toD] at e; subst e; exact ⟨.int i, rfl, Nat.le_refl _⟩
    | str y =>
      simp only [toD] at e
      split at e
      · rename_i hs
        cases e
        exact ⟨.str y, by simp only [PyData.canLay0]; exact hs, Nat.le_refl _⟩
      · cases e
    | _ => simp [toD] at e
  | succ n ih =>
    have all : ∀ (xs : List PV) (vs : List V) (ds : List PyData), Reps K mg ι H xs vs → mapO (toD st n) xs = some ds → DpAll K H vs ds ∧ PyData.canLayAll0 ds = true ∧ PyData.depthAll ds ≤ n := by
      intro xs
      induction xs with
      | nil => intro vs ds h e; cases h; simp [mapO] at e; subst e; exact ⟨.nil, rfl, Nat.zero_le _⟩
      | cons x xs ih2 =>
        intro vs ds h e
        cases h with
        | cons h hs =>
          simp only [mapO] at e
          cases e1 : toD st n x with
          | none => rw [e1] at e; cases e
          | some d =>
            rw [e1] at e
            cases e2 : mapO (toD st n) xs with
            | none => rw [e2] at e; cases e
            | some ds2 =>
              rw [e2] at e
              cases e
              obtain ⟨a1, a2, a3⟩ := ih x _ d h e1
              obtain ⟨b1, b2, b3⟩ := ih2 _ ds2 hs e2
              refine ⟨.cons a1 b1, ?_, ?_⟩
              · simp only [PyData.canLayAll0, a2, b2, Bool.and_self]
              · simp only [PyData.depthAll]
                omega
    intro x v d h e
    cases h with
    | non => simp [toD] at e; subst e; exact ⟨.non, rfl, Nat.zero_le _⟩
    | bl b => simp [toD] at e; subst e; exact ⟨.bl b, rfl, Nat.zero_le _⟩
    | int i => simp [toD] at e; subst e; exact ⟨.int i, rfl, Nat.zero_le _⟩
    | str y =>
      simp only [toD] at e
      split at e
      · rename_i hs
        cases e
        exact ⟨.str y, by simp only [PyData.canLay0]; exact hs, Nat.zero_le _⟩
      · cases e
    | @tup a xs vs s1 r1 =>
      simp only [toD] at e
      cases e1 : mapO (toD st n) xs with
      | none => rw [e1] at e; cases e
      | some ds =>
        rw [e1] at e
        cases e
        obtain ⟨a1, a2, a3⟩ := all xs vs ds r1 e1
        exact ⟨.tup s1 a1, by simp only [PyData.canLay0]; exact a2, by simp only [PyData.depth]; omega⟩
    | @rol a xs vs s1 r1 =>
      simp only [toD] at e
      cases e1 : mapO (toD st n) xs with
      | none => rw [e1] at e; cases e
      | some ds =>
        rw [e1] at e
        cases e
        obtain ⟨a1, a2, a3⟩ := all xs vs ds r1 e1
        exact ⟨.lst s1.sqL a1, by simp only [PyData.canLay0]; exact a2, by simp only [PyData.depth]; omega⟩
    | @obj m a hm =>
      simp only [toD] at e
      obtain ⟨o, ho, hr⟩ := R.obj m a hm
      rw [ho] at e
      cases o with
      | dct kvs => cases e
      | lst xs =>
        obtain ⟨vs, h1, r1⟩ := hr
        simp only at e
        cases e1 : mapO (toD st n) xs with
        | none => rw [e1] at e; cases e
        | some ds =>
          rw [e1] at e
          cases e
          obtain ⟨a1, a2, a3⟩ := all xs vs ds r1 e1
          exact ⟨.lst (SqL.of h1) a1, by simp only [PyData.canLay0]; exact a2, by simp only [PyData.depth]; omega⟩
    | _ => simp [toD] at e
theorem toDs_ok (R : Rel K mg ι H st) (n : Nat) : ∀ (xs : List PV) (vs : List V) (ds : List PyData), Reps K mg ι H xs vs → mapO (toD st n) xs = some ds → DpAll K H vs ds ∧ PyData.canLayAll0 ds = true ∧ PyData.depthAll ds ≤ n := by
  intro xs
  induction xs with
  | nil => intro vs ds h e; cases h; simp [mapO] at e; subst e; exact ⟨.nil, rfl, Nat.zero_le _⟩
  | cons x xs ih2 =>
    intro vs ds h e
    cases h with
    | cons h hs =>
      simp only [mapO] at e
      cases e1 : toD st n x with
      | none => rw [e1] at e; cases e
      | some d =>
        rw [e1] at e
        cases e2 : mapO (toD st n) xs with
        | none => rw [e2] at e; cases e
        | some ds2 =>
          rw [e2] at e
          cases e
          obtain ⟨a1, a2, a3⟩ := toD_ok R n x _ d h e1
          obtain ⟨b1, b2, b3⟩ := ih2 _ ds2 hs e2
          refine ⟨.cons a1 b1, ?_, ?_⟩
          · simp only [PyData.canLayAll0, a2, b2, Bool.and_self]
          · simp only [PyData.depthAll]
            omega
theorem shaped_of {d : PyData} {n : Nat} (h1 : d.canLay0 = true) (h2 : d.depth ≤ n) (h3 : n ≤ 64) : SeqAt.shaped d = true := by
  unfold SeqAt.shaped
  rw [h1, Bool.true_and]
  exact decide_eq_true (Nat.le_trans h2 h3)
/-- two values compared -/
theorem eqD_ok (R : Rel K mg ι H st) {px py : PV} {x y : V} {b : Bool} (rx : Rep K mg ι H px x) (ry : Rep K mg ι H py y) (e : eqD px py st = some b) :
    (∃ d e, Dp K H x d ∧ Dp K H y e ∧ SeqAt.shaped d = true ∧ SeqAt.shaped e = true ∧ PyData.eqv d e = b) ∨ ∃ s, x = .str s ∧ y = .str s ∧ b = true := by
  unfold eqD at e
  split at e
  · cases rx; cases ry
    rename_i i j
    exact .inl ⟨.int i, .int j, .int i, .int j, rfl, rfl, by simp only [PyData.eqv]; exact Option.some.inj e⟩
  · rename_i d e'
    split at e
    · rename_i hs
      cases rx; cases ry
      cases e
      exact .inr ⟨_, rfl, by rw [sameD_eq hs], rfl⟩
    · cases e
  · refine .inl ?_
    cases e1 : toD st 60 px with
    | none => rw [e1] at e; cases e
    | some d =>
      rw [e1] at e
      cases e2 : toD st 60 py with
      | none => rw [e2] at e; cases e
      | some d2 =>
        rw [e2] at e
        cases e
        obtain ⟨a1, a2, a3⟩ := toD_ok R 60 px x d rx e1
        obtain ⟨b1, b2, b3⟩ := toD_ok R 60 py y d2 ry e2
        exact ⟨d, d2, a1, b1, shaped_of a2 a3 (by decide), shaped_of b2 b3 (by decide), rfl⟩
end
section
variable {X : Cx} {W : WX}
theorem or_eq (hu : X.A.units + 64 < cLine) : OpR X (compareOp .Eq) (rOp X.K X.mg W (evCmp .eq)) := by
  refine (OpR.or (op_eqD hu) op_eq).imp fun x y H Q h => ?_
  obtain ⟨σ, ι, px, py, st, R, rx, ry, p⟩ := h
  simp only [evCmp] at p
  cases e : eqD px py st with
  | none => rw [e] at p; exact p.elim
  | some b =>
    rw [e] at p
    rcases eqD_ok R rx ry e with ⟨d, e, h1, h2, h3, h4, h5⟩ | ⟨s, rfl, rfl, rfl⟩
    · exact .inl ⟨d, e, h1, h2, h3, h4, by rw [h5]; exact p.here R (.bl _)⟩
    · refine .inr ⟨rfl, ?_⟩
      rw [decide_eq_true rfl]
      exact p.here R (.bl _)
theorem or_ne (hu : X.A.units + 64 < cLine) : OpR X (compareOp .NotEq) (rOp X.K X.mg W (evCmp .ne)) := by
  refine (OpR.or (op_neD hu) op_ne).imp fun x y H Q h => ?_
  obtain ⟨σ, ι, px, py, st, R, rx, ry, p⟩ := h
  simp only [evCmp] at p
  cases e : eqD px py st with
  | none => rw [e] at p; exact p.elim
  | some b =>
    rw [e] at p
    rcases eqD_ok R rx ry e with ⟨d, e, h1, h2, h3, h4, h5⟩ | ⟨s, rfl, rfl, rfl⟩
    · exact .inl ⟨d, e, h1, h2, h3, h4, by rw [h5]; exact p.here R (.bl _)⟩
    · refine .inr ⟨rfl, ?_⟩
      rw [decide_eq_true rfl]
      exact p.here R (.bl _)
theorem or_lt : OpR X (compareOp .Lt) (rOp X.K X.mg W (evCmp .lt)) := by
  refine op_lt.imp fun x y H Q h => ?_
  obtain ⟨σ, ι, px, py, st, R, rx, ry, p⟩ := h
  simp only [evCmp] at p
  split at p
  · cases rx; cases ry
    exact ⟨_, _, rfl, rfl, p.here R (.bl _)⟩
  · exact p.elim
theorem or_le : OpR X (compareOp .LtE) (rOp X.K X.mg W (evCmp .le)) := by
  refine op_le.imp fun x y H Q h => ?_
  obtain ⟨σ, ι, px, py, st, R, rx, ry, p⟩ := h
  simp only [evCmp] at p
  split at p
  · cases rx; cases ry
    exact ⟨_, _, rfl, rfl, p.here R (.bl _)⟩
  · exact p.elim
theorem or_gt : OpR X (compareOp .Gt) (rOp X.K X.mg W (evCmp .gt)) := by
  refine op_gt.imp fun x y H Q h => ?_
  obtain ⟨σ, ι, px, py, st, R, rx, ry, p⟩ := h
  simp only [evCmp] at p
  split at p
  · cases rx; cases ry
    exact ⟨_, _, rfl, rfl, p.here R (.bl _)⟩
  · exact p.elim
theorem or_ge : OpR X (compareOp .GtE) (rOp X.K X.mg W (evCmp .ge)) := by
  refine op_ge.imp fun x y H Q h => ?_
  obtain ⟨σ, ι, px, py, st, R, rx, ry, p⟩ := h
  simp only [evCmp] at p
  split at p
  · cases rx; cases ry
    exact ⟨_, _, rfl, rfl, p.here R (.bl _)⟩
  · exact p.elim
/-- x in y: data of any depth in a list or a tuple -/
def rInE (K : PySem.W.Frag) (neg : Bool) : R2 := fun x y H Q => ∃ d ds, Dp K H x d ∧ (Dp K H y (.list ds) ∨ Dp K H y (.tuple ds)) ∧ d.canLay0 = true ∧ PyData.canLayAll0 ds = true ∧ d.depth ≤ 60 ∧
  Q (.bl (if neg then !(ds.any fun z => PyData.eqv z d) else ds.any fun z => PyData.eqv z d)) H
theorem op_inE (hu : X.A.units + 64 < cLine) : OpR X (compareOp .In) (rInE X.K false) := by
  intro pins s σ H x y v u Q I rx ry h
  obtain ⟨d, ds, hd, he, sd, se, dp, q⟩ := h
  obtain ⟨as, r1⟩ := Dp.reads I d x v hd rx
  have room : X.A.units + 1 + min (PyData.depthAll ds) d.depth < cLine := by
    have := Nat.min_le_right (PyData.depthAll ds) d.depth
    omega
  rcases he with he | he
  · obtain ⟨bs, r2⟩ := Dp.reads I (.list ds) y u he ry
    exact SeqAt.in_list_reads r2 r1 se sd room ⟨.bl _, H, I, rfl, q⟩
  · obtain ⟨bs, r2⟩ := Dp.reads I (.tuple ds) y u he ry
    exact SeqAt.in_tuple_reads r2 r1 se sd room ⟨.bl _, H, I, rfl, q⟩
theorem op_notInE (hu : X.A.units + 64 < cLine) : OpR X (compareOp .NotIn) (rInE X.K true) := by
  intro pins s σ H x y v u Q I rx ry h
  obtain ⟨d, ds, hd, he, sd, se, dp, q⟩ := h
  obtain ⟨as, r1⟩ := Dp.reads I d x v hd rx
  have room : X.A.units + 1 + min (PyData.depthAll ds) d.depth < cLine := by
    have := Nat.min_le_right (PyData.depthAll ds) d.depth
    omega
  rcases he with he | he
  · obtain ⟨bs, r2⟩ := Dp.reads I (.list ds) y u he ry
    exact SeqAt.notIn_list_reads r2 r1 se sd room ⟨.bl _, H, I, rfl, q⟩
  · obtain ⟨bs, r2⟩ := Dp.reads I (.tuple ds) y u he ry
    exact SeqAt.notIn_tuple_reads r2 r1 se sd room ⟨.bl _, H, I, rfl, q⟩
theorem inD_ok {K : PySem.W.Frag} {mg : Str → Option Value} {ι : List Addr} {H : Hp} {st : Store} (R : Rel K mg ι H st) {px py : PV} {x y : V} {b : Bool} (rx : Rep K mg ι H px x) (ry : Rep K mg ι H py y) (e : inD px py st = some b) :
    ∃ d ds, Dp K H x d ∧ (Dp K H y (.list ds) ∨ Dp K H y (.tuple ds)) ∧ d.canLay0 = true ∧ PyData.canLayAll0 ds = true ∧ d.depth ≤ 60 ∧ (ds.any fun z => PyData.eqv z d) = b := by
  unfold inD at e
  cases ei : items py st with
  | none => rw [ei] at e; cases e
  | some q =>
    rw [ei] at e
    obtain ⟨src, ys⟩ := q
    simp only at e
    cases e1 : toD st 59 px with
    | none => rw [e1] at e; cases e
    | some d =>
      rw [e1] at e
      cases e2 : mapO (toD st 59) ys with
      | none => rw [e2] at e; cases e
      | some ds =>
        rw [e2] at e
        cases e
        obtain ⟨a1, a2, a3⟩ := toD_ok R 59 px x d rx e1
        obtain ⟨a, vs, ev, hs, hq⟩ := (items_rep (H0 := H) R ry ei).sq
        obtain ⟨b1, b2, b3⟩ := toDs_ok R 59 ys vs ds hs e2
        subst ev
        refine ⟨d, ds, a1, ?_, a2, b2, by omega, rfl⟩
        rcases hq with hq | hq
        · exact .inl (.lst hq b1)
        · exact .inr (.tup hq b1)
theorem or_in (hu : X.A.units + 64 < cLine) : OpR X (compareOp .In) (rOp X.K X.mg W (evCmp .isin)) := by
  refine (op_inE hu).imp fun x y H Q h => ?_
  obtain ⟨σ, ι, px, py, st, R, rx, ry, p⟩ := h
  simp only [evCmp] at p
  cases e : inD px py st with
  | none => rw [e] at p; exact p.elim
  | some b =>
    rw [e] at p
    obtain ⟨d, ds, h1, h2, h3, h4, h5, h6⟩ := inD_ok R rx ry e
    exact ⟨d, ds, h1, h2, h3, h4, h5, by rw [h6]; exact p.here R (.bl _)⟩
theorem or_notin (hu : X.A.units + 64 < cLine) : OpR X (compareOp .NotIn) (rOp X.K X.mg W (evCmp .notin)) := by
  refine (op_notInE hu).imp fun x y H Q h => ?_
  obtain ⟨σ, ι, px, py, st, R, rx, ry, p⟩ := h
  simp only [evCmp] at p
  cases e : inD px py st with
  | none => rw [e] at p; exact p.elim
  | some b =>
    rw [e] at p
    obtain ⟨d, ds, h1, h2, h3, h4, h5, h6⟩ := inD_ok R rx ry e
    exact ⟨d, ds, h1, h2, h3, h4, h5, by rw [h6]; exact p.here R (.bl _)⟩
def copOf : Cop → CmpOp
  | .eq => .Eq | .ne => .NotEq | .lt => .Lt | .le => .LtE | .gt => .Gt | .ge => .GtE | .isin => .In | .notin => .NotIn
theorem or_cmp (hu : X.A.units + 64 < cLine) (op : Cop) : OpR X (compareOp (copOf op)) (rOp X.K X.mg W (evCmp op)) := by
  cases op
  · exact or_eq hu
  · exact or_ne hu
  · exact or_lt
  · exact or_le
  · exact or_gt
  · exact or_ge
  · exact or_in hu
  · exact or_notin hu
end
end Ev

namespace Ev
open PySem PySem.Spec L2

section
variable {X : Cx} {W : WX} {a b c : Expr} {ma mb mc : Env → Store → Res PV} {ba bb bc : Env → Store → Res Bool} {pos : Pos}

theorem se_slot {i : Nat} {x : Str} (hN : X.N[i]? = some x) (hv : Vis X.env.scope x) (hd : (x == ("__debug__" : Str)) = false) (hcd : (x == ("__classdict__" : Str)) = false) :
    SE X W (.Name x pos) (fun env st => okO (getS env i) st) := by
  refine (pe_var hN hv hd hcd).imp fun σ H Q h => ?_
  obtain ⟨ι, env, st, S, R, p⟩ := h
  dsimp only at p
  cases e : getS env i with
  | none => rw [e] at p; exact p.elim
  | some x =>
    rw [e] at p
    obtain ⟨v, h1, h2⟩ := S.get i x e
    exact ⟨v, h1, p.here R h2⟩
theorem se_const {e : Expr} {v : V} {x : PV} (h : PE X e (tC v)) (r : ∀ ι H, Rep X.K X.mg ι H x v) : SE X W e (fun _ st => .ok x st) := by
  refine h.imp fun σ H Q h => ?_
  obtain ⟨ι, env, st, S, R, p⟩ := h
  exact p.here R (r ι H)
theorem se_int {i : Int} {j : Nat} : SE X W (.Constant (.int i) j pos) (fun _ st => .ok (.int i) st) := se_const pe_int fun _ _ => .int i
theorem se_bl {i : Bool} {j : Nat} : SE X W (.Constant (.bool i) j pos) (fun _ st => .ok (.bl i) st) := se_const pe_bl fun _ _ => .bl i
theorem se_non {j : Nat} : SE X W (.Constant .none j pos) (fun _ st => .ok .non st) := se_const pe_non fun _ _ => .non
theorem se_str {x : Str} {j : Nat} : SE X W (.Constant (.str x) j pos) (fun _ st => .ok (.str x) st) := se_const pe_str fun _ _ => .str x
theorem se_glob {x : Str} {v : V} {u : Value} {y : PV} (hg : Gl X x) (hm : X.mg x = some u) (r : RelV v u) (hd : (x == ("__debug__" : Str)) = false) (hr : ∀ ι H, Rep X.K X.mg ι H y v) : SE X W (.Name x pos) (fun _ st => .ok y st) :=
  se_const (pe_glob hg hm r hd) hr
theorem se_neg (ha : SE X W a ma) : SE X W (.UnaryOp .USub a pos) (fun env st => (ma env st).bind fun x st1 => match x with
    | .int i => .ok (.int (-i)) st1
    | _ => .stuck) := by
  refine (pe_un un_neg ha).imp fun σ H Q h => ?_
  obtain ⟨ι, env, st, S, R, p⟩ := h
  refine ⟨ι, env, st, S, R, p.bind fun ι1 px st1 x H1 g1 R1 rx p1 => ?_⟩
  split at p1
  · cases rx
    exact ⟨_, rfl, p1.here R1 (.int _)⟩
  · exact p1.elim
/-- truth -/
theorem truth_ok {K : PySem.W.Frag} {mg : Str → Option Value} {ι : List Addr} {H : Hp} {st : Store} (R : Rel K mg ι H st) {x : PV} {v : V} {k : Bool} (r : Rep K mg ι H x v) (e : truth x st = some k) : TruV K v H k := by
  cases r with
  | non => simp only [truth, Option.some.injEq] at e; exact e.symm
  | bl b => simp only [truth, Option.some.injEq] at e; exact e.symm
  | int i => simp only [truth, Option.some.injEq] at e; exact e.symm
  | str y =>
    simp only [truth] at e
    split at e
    · rename_i hl
      exact ⟨hl, (Option.some.inj e).symm⟩
    · cases e
  | @tup a xs vs s1 r1 =>
    simp only [truth, Option.some.injEq] at e
    refine .inr (.inl ⟨vs, s1, ?_⟩)
    rw [← e]
    cases r1 <;> rfl
  | @rol a xs vs s1 r1 =>
    simp only [truth, Option.some.injEq] at e
    refine .inl ⟨vs, s1.sqL, ?_⟩
    rw [← e]
    cases r1 <;> rfl
  | @obj n a hn =>
    obtain ⟨o, ho, hr⟩ := R.obj n a hn
    simp only [truth, ho] at e
    cases o with
    | lst xs =>
      obtain ⟨vs, h1, r1⟩ := hr
      refine .inl ⟨vs, SqL.of h1, ?_⟩
      simp only [Option.some.injEq] at e
      rw [← e]
      cases r1 <;> rfl
    | dct kvs =>
      obtain ⟨kws, h1, r1, r2⟩ := hr
      refine .inr (.inr ⟨kws, h1, ?_⟩)
      simp only [Option.some.injEq] at e
      rw [← e]
      cases kvs <;> cases kws <;> simp at r1 <;> rfl
  | _ => simp [truth] at e
theorem se_and {rest : List Expr} (ha : SE X W a ma) (hb : SE X W (.BoolOp .And (b :: rest) pos) mb) : SE X W (.BoolOp .And (a :: b :: rest) pos) (fun env st => (ma env st).bind fun x st1 => match truth x st1 with
    | some true => mb env st1
    | some false => .ok x st1
    | none => .stuck) := by
  refine (pe_andT ha hb).imp fun σ H Q h => ?_
  obtain ⟨ι, env, st, S, R, p⟩ := h
  refine ⟨ι, env, st, S, R, p.bind fun ι1 px st1 x H1 g1 R1 rx p1 => ?_⟩
  cases e : truth px st1 with
  | none => rw [e] at p1; exact p1.elim
  | some k =>
    rw [e] at p1
    refine ⟨k, truth_ok R1 rx e, ?_⟩
    cases k with
    | true => rw [if_pos rfl]; exact ⟨ι1, env, st1, S.grow R g1, R1, p1⟩
    | false => rw [if_neg Bool.false_ne_true]; exact p1.here R1 rx
theorem se_or {rest : List Expr} (ha : SE X W a ma) (hb : SE X W (.BoolOp .Or (b :: rest) pos) mb) : SE X W (.BoolOp .Or (a :: b :: rest) pos) (fun env st => (ma env st).bind fun x st1 => match truth x st1 with
    | some true => .ok x st1
    | some false => mb env st1
    | none => .stuck) := by
  refine (pe_orT ha hb).imp fun σ H Q h => ?_
  obtain ⟨ι, env, st, S, R, p⟩ := h
  refine ⟨ι, env, st, S, R, p.bind fun ι1 px st1 x H1 g1 R1 rx p1 => ?_⟩
  cases e : truth px st1 with
  | none => rw [e] at p1; exact p1.elim
  | some k =>
    rw [e] at p1
    refine ⟨k, truth_ok R1 rx e, ?_⟩
    cases k with
    | true => rw [if_pos rfl]; exact p1.here R1 rx
    | false => rw [if_neg Bool.false_ne_true]; exact ⟨ι1, env, st1, S.grow R g1, R1, p1⟩
/-- behind a value, its truth -/
theorem post_bool {K : PySem.W.Frag} {mg : Str → Option Value} {σ : St} {ι : List Addr} {H : Hp} {Q : Bool → Hp → Prop} {r : Res PV} (p : Post (kB (K := K) (mg := mg)) W σ ι H Q (boolR r)) :
    Post (kE (K := K) (mg := mg)) W σ ι H (fun v H' => ∃ k, TruV K v H' k ∧ Q k H') r := by
  cases r with
  | ok x st =>
    intro v ι' H' g R h
    simp only [boolR] at p
    cases e : truth x st with
    | none => rw [e] at p; exact p.elim
    | some k =>
      rw [e] at p
      exact ⟨k, truth_ok R h e, p k ι' H' g R rfl⟩
  | exc x st => exact p
  | stuck => exact p
theorem post_mapB {K : PySem.W.Frag} {mg : Str → Option Value} {σ : St} {ι : List Addr} {H : Hp} {Q : VK} {r : Res Bool} {f : Bool → Bool} (p : Post (kE (K := K) (mg := mg)) W σ ι H Q (r.bind fun b st1 => .ok (.bl (f b)) st1)) :
    Post (kB (K := K) (mg := mg)) W σ ι H (fun k H' => Q (.bl (f k)) H') r := by
  refine p.bind fun ι1 k st1 k' H1 g1 R1 e p1 => ?_
  have e' : k = k' := e
  subst e'
  exact p1.here R1 (.bl _)
theorem se_not (ha : SE X W a ma) : SE X W (.UnaryOp .Not a pos) (fun env st => (boolR (ma env st)).bind fun b st1 => .ok (.bl (!b)) st1) := by
  refine (pe_notT ha).imp fun σ H Q h => ?_
  obtain ⟨ι, env, st, S, R, p⟩ := h
  exact ⟨ι, env, st, S, R, post_bool (post_mapB (f := fun b => !b) p)⟩
theorem se_one {op : BoolOp} {e : Expr} {m : Env → Store → Res PV} (h : SE X W e m) : SE X W (.BoolOp op [e] pos) m := pe_one h
theorem se_ite (hc : SB X W c bc) (ha : SE X W a ma) (hb : SE X W b mb) : SE X W (.IfExp c a b pos) (fun env st => (bc env st).bind fun k st1 => match k with
    | true => ma env st1
    | false => mb env st1) := by
  refine (pe_ifExp hc ha hb).imp fun σ H Q h => ?_
  obtain ⟨ι, env, st, S, R, p⟩ := h
  refine ⟨ι, env, st, S, R, p.bind fun ι1 k st1 k' H1 g1 R1 e p1 => ?_⟩
  have e' : k = k' := e
  subst e'
  cases k with
  | true => rw [if_pos rfl]; exact ⟨ι1, env, st1, S.grow R g1, R1, p1⟩
  | false => rw [if_neg Bool.false_ne_true]; exact ⟨ι1, env, st1, S.grow R g1, R1, p1⟩
/-- a op b op c -/
theorem se_chn {o o' : CmpOp} {g g' : PV → PV → Store → Res PV} (ho : OpR X (compareOp o) (rOp X.K X.mg W g)) (ho' : OpR X (compareOp o') (rOp X.K X.mg W g')) (ha : SE X W a ma) (hb : SE X W b mb) (hc : SE X W c mc)
    (hm : lastMarks [o, o'] [b, c] = false) : SE X W (.Compare a [o, o'] [b, c] pos) (fun env st => (ma env st).bind fun x st1 => (mb env st1).bind fun y st2 => (g x y st2).bind fun z st3 => match z with
    | .bl true => (mc env st3).bind fun w st4 => g' y w st4
    | .bl false => .ok (.bl false) st3
    | _ => .stuck) := by
  refine (pe_chain ho ho' ha hb hc hm).imp fun σ H Q h => ?_
  obtain ⟨ι, env, st, S, R, p⟩ := h
  refine ⟨ι, env, st, S, R, p.bind fun ι1 px st1 x H1 g1 R1 rx p1 => ?_⟩
  refine ⟨ι1, env, st1, S.grow R g1, R1, p1.bind fun ι2 py st2 y H2 g2 R2 ry p2 => ?_⟩
  refine ⟨σ, ι2, px, py, st2, R2, Rep.grow R1 g2 rx, ry, p2.bind fun ι3 pz st3 z H3 g3 R3 rz p3 => ?_⟩
  split at p3
  · cases rz
    refine ⟨true, rfl, ?_⟩
    rw [if_pos rfl]
    refine ⟨ι3, env, st3, ((S.grow R g1).grow R1 g2).grow R2 g3, R3, p3.bind fun ι4 pw st4 w H4 g4 R4 rw p4 => ?_⟩
    exact ⟨σ, ι4, py, pw, st4, R4, Rep.grow R3 g4 (Rep.grow R2 g3 ry), rw, p4⟩
  · cases rz
    refine ⟨false, rfl, ?_⟩
    rw [if_neg Bool.false_ne_true]
    exact p3.here R3 (.bl _)
  · exact p3.elim

/-! ### tests -/
theorem sb_val {e : Expr} {m : Env → Store → Res PV} (h : SE X W e m) (he : ∀ whole, isTrue e X.env whole = (do let v ← whole; standAt e.pos; holding [v] (truthy v))) : SB X W e (fun env st => boolR (m env st)) := by
  refine (pt_truth h he).imp fun σ H Q h => ?_
  obtain ⟨ι, env, st, S, R, p⟩ := h
  exact ⟨ι, env, st, S, R, post_bool p⟩
theorem post_boolB {K : PySem.W.Frag} {mg : Str → Option Value} {σ : St} {ι : List Addr} {H : Hp} {Q : Bool → Hp → Prop} {r : Res PV} (hr : ∀ x st, r = .ok x st → ∃ b, x = .bl b) (p : Post (kB (K := K) (mg := mg)) W σ ι H Q (boolR r)) :
    Post (kE (K := K) (mg := mg)) W σ ι H (fun v H' => ∃ k, v = .bl k ∧ Q k H') r := by
  cases r with
  | ok x st =>
    obtain ⟨b, rfl⟩ := hr x st rfl
    intro v ι' H' g R h
    cases h
    exact ⟨b, rfl, p b ι' H' g R rfl⟩
  | exc x st => exact p
  | stuck => exact p
theorem evCmp_bl {op : Cop} {x y : PV} {st st' : Store} {z : PV} (h : evCmp op x y st = .ok z st') : ∃ b, z = .bl b := by
  unfold evCmp at h
  cases op <;> simp only [okB] at h <;> (split at h <;> first | (cases h; exact ⟨_, rfl⟩) | cases h)
theorem bind_ok {α β : Type} {r : Res α} {f : α → Store → Res β} {x : β} {s : Store} (h : r.bind f = .ok x s) : ∃ a s1, r = .ok a s1 ∧ f a s1 = .ok x s := by
  cases r with
  | ok a s1 => exact ⟨a, s1, rfl, h⟩
  | exc _ _ => cases h
  | stuck => cases h
theorem sb_cmp {op : Cop} (hu : X.A.units + 64 < cLine) (ha : SE X W a ma) (hb : SE X W b mb) (hm : behindInMarks (copOf op) b = false) :
    SB X W (.Compare a [copOf op] [b] pos) (fun env st => boolR ((ma env st).bind fun x st1 => (mb env st1).bind fun y st2 => evCmp op x y st2)) := by
  refine (pt_cmpR (or_cmp (W := W) hu op) ha hb hm).imp fun σ H Q h => ?_
  obtain ⟨ι, env, st, S, R, p⟩ := h
  exact rd_two ⟨ι, env, st, S, R, post_boolB (fun x s' e => by
    obtain ⟨x1, s1, _, e⟩ := bind_ok e
    obtain ⟨x2, s2, _, e⟩ := bind_ok e
    exact evCmp_bl e) p⟩
theorem sb_chn {o o' : Cop} (hu : X.A.units + 64 < cLine) (ha : SE X W a ma) (hb : SE X W b mb) (hc : SE X W c mc)
    (hm : lastMarks [copOf o, copOf o'] [b, c] = false) : SB X W (.Compare a [copOf o, copOf o'] [b, c] pos) (fun env st => boolR ((ma env st).bind fun x st1 => (mb env st1).bind fun y st2 => (evCmp o x y st2).bind fun z st3 => match z with
    | .bl true => (mc env st3).bind fun w st4 => evCmp o' y w st4
    | .bl false => .ok (.bl false) st3
    | _ => .stuck)) := by
  refine (pt_chain (or_cmp (W := W) hu o) (or_cmp (W := W) hu o') ha hb hc hm).imp fun σ H Q h => ?_
  obtain ⟨ι, env, st, S, R, p⟩ := h
  have p' : Post (kE (K := X.K) (mg := X.mg)) W σ ι H (fun v H' => ∃ k, v = .bl k ∧ Q k H') ((ma env st).bind fun x st1 => (mb env st1).bind fun y st2 => (evCmp o x y st2).bind fun z st3 => match z with
    | .bl true => (mc env st3).bind fun w st4 => evCmp o' y w st4
    | .bl false => .ok (.bl false) st3
    | _ => .stuck) := by
    refine post_boolB (fun x s' e => ?_) p
    obtain ⟨x1, s1, _, e⟩ := bind_ok e
    obtain ⟨x2, s2, _, e⟩ := bind_ok e
    obtain ⟨x3, s3, _, e⟩ := bind_ok e
    split at e
    · obtain ⟨x4, s4, _, e⟩ := bind_ok e
      exact evCmp_bl e
    · cases e; exact ⟨_, rfl⟩
    · cases e
  refine ⟨ι, env, st, S, R, p'.bind fun ι1 px st1 x H1 g1 R1 rx p1 => ?_⟩
  refine ⟨ι1, env, st1, S.grow R g1, R1, p1.bind fun ι2 py st2 y H2 g2 R2 ry p2 => ?_⟩
  refine ⟨σ, ι2, px, py, st2, R2, Rep.grow R1 g2 rx, ry, p2.bind fun ι3 pz st3 z H3 g3 R3 rz p3 => ?_⟩
  split at p3
  · cases rz
    refine ⟨true, rfl, ?_⟩
    rw [if_pos rfl]
    refine ⟨ι3, env, st3, ((S.grow R g1).grow R1 g2).grow R2 g3, R3, p3.bind fun ι4 pw st4 w H4 g4 R4 rw p4 => ?_⟩
    exact ⟨σ, ι4, py, pw, st4, R4, Rep.grow R3 g4 (Rep.grow R2 g3 ry), rw, p4⟩
  · cases rz
    refine ⟨false, rfl, ?_⟩
    rw [if_neg Bool.false_ne_true]
    exact p3.here R3 (.bl _)
  · exact p3.elim
theorem sb_not (ha : SB X W a ba) : SB X W (.UnaryOp .Not a pos) (fun env st => (ba env st).bind fun b st1 => .ok (!b) st1) := by
  refine (pt_not ha).imp fun σ H Q h => ?_
  obtain ⟨ι, env, st, S, R, p⟩ := h
  refine ⟨ι, env, st, S, R, p.bind fun ι1 k st1 k' H1 g1 R1 e p1 => ?_⟩
  have e' : k = k' := e
  subst e'
  exact p1.here R1 rfl
def SW (X : Cx) (W : WX) (e : Expr) (m : Env → Store → Res Bool) : Prop := PW X e (fun σ H Q => Rd (kB (K := X.K) (mg := X.mg)) W m σ H Q)
theorem _root_.L2.PW.imp {X : Cx} {e : Expr} {t t' : TT} (h : PW X e t) (i : ∀ σ H Q, t' σ H Q → t σ H Q) : PW X e t' := ⟨fun whole pins s σ H Q I q => h.run whole pins s σ H Q I (i σ H Q q)⟩
theorem sw_and1 (ha : SB X W a ba) : SW X W (.BoolOp .And [a] pos) ba := pw_and1 ha
theorem sw_or1 (ha : SB X W a ba) : SW X W (.BoolOp .Or [a] pos) ba := pw_or1 ha
theorem sw_and {rest : List Expr} (ha : SB X W a ba) (hb : SW X W (.BoolOp .And (b :: rest) pos) bb) : SW X W (.BoolOp .And (a :: b :: rest) pos) (fun env st => (ba env st).bind fun k st1 => match k with
    | true => bb env st1
    | false => .ok false st1) := by
  refine (pw_and ha hb).imp fun σ H Q h => ?_
  obtain ⟨ι, env, st, S, R, p⟩ := h
  refine ⟨ι, env, st, S, R, p.bind fun ι1 k st1 k' H1 g1 R1 e p1 => ?_⟩
  have e' : k = k' := e
  subst e'
  cases k with
  | true => rw [if_pos rfl]; exact ⟨ι1, env, st1, S.grow R g1, R1, p1⟩
  | false => rw [if_neg Bool.false_ne_true]; exact p1.here R1 rfl
theorem sw_or {rest : List Expr} (ha : SB X W a ba) (hb : SW X W (.BoolOp .Or (b :: rest) pos) bb) : SW X W (.BoolOp .Or (a :: b :: rest) pos) (fun env st => (ba env st).bind fun k st1 => match k with
    | true => .ok true st1
    | false => bb env st1) := by
  refine (pw_or ha hb).imp fun σ H Q h => ?_
  obtain ⟨ι, env, st, S, R, p⟩ := h
  refine ⟨ι, env, st, S, R, p.bind fun ι1 k st1 k' H1 g1 R1 e p1 => ?_⟩
  have e' : k = k' := e
  subst e'
  cases k with
  | true => rw [if_pos rfl]; exact p1.here R1 rfl
  | false => rw [if_neg Bool.false_ne_true]; exact ⟨ι1, env, st1, S.grow R g1, R1, p1⟩
theorem sb_ite (hc : SB X W c bc) (ha : SB X W a ba) (hb : SB X W b bb) : SB X W (.IfExp c a b pos) (fun env st => (bc env st).bind fun k st1 => match k with
    | true => ba env st1
    | false => bb env st1) := by
  refine ⟨fun pins s σ H Q I h => ?_⟩
  obtain ⟨ι, env, st, S, R, p⟩ := h
  show wpAny (model X.prog X.w) X.A (do if ← isTrue c X.env (eval c X.env) then isTrue a X.env (eval a X.env) else isTrue b X.env (eval b X.env)) _ _ _
  refine wpAny_bind (thn (hc.run pins s σ H (fun k H1 => ∃ ι1 st1, Grow ι H ι1 H1 ∧ Rel X.K X.mg ι1 H1 st1 ∧ Post (kB (K := X.K) (mg := X.mg)) W σ ι1 H1 Q (match k with
    | true => ba env st1
    | false => bb env st1)) I ⟨ι, env, st, S, R, p.bind fun ι1 k st1 k' H1 g1 R1 e p1 => by
      have e' : k = k' := e
      subst e'
      exact ⟨ι1, st1, g1, R1, p1⟩⟩) fun k s1 hk => ?_)
  obtain ⟨H1, I1, ι1, st1, g1, R1, p1⟩ := hk
  cases k with
  | true =>
    rw [if_pos rfl]
    exact ha.run pins s1 σ H1 Q I1 ⟨ι1, env, st1, S.grow R g1, R1, p1⟩
  | false =>
    rw [if_neg Bool.false_ne_true]
    exact hb.run pins s1 σ H1 Q I1 ⟨ι1, env, st1, S.grow R g1, R1, p1⟩
theorem se_isn {j : Nat} {pos' : Pos} (ha : SE X W a ma) : SE X W (.Compare a [.Is] [.Constant .none j pos'] pos) (fun env st => (ma env st).bind fun x st1 => match x with
    | .non => .ok (.bl (!false)) st1
    | _ => .ok (.bl false) st1) := by
  refine (pe_cmp (pc_isN ha)).imp fun σ H Q h => ?_
  obtain ⟨ι, env, st, S, R, p⟩ := h
  refine ⟨ι, env, st, S, R, p.bind fun ι1 px st1 x H1 g1 R1 rx p1 => ?_⟩
  cases rx <;> exact p1.here R1 (.bl _)
theorem se_isn' {j : Nat} {pos' : Pos} (ha : SE X W a ma) : SE X W (.Compare a [.IsNot] [.Constant .none j pos'] pos) (fun env st => (ma env st).bind fun x st1 => match x with
    | .non => .ok (.bl (!true)) st1
    | _ => .ok (.bl true) st1) := by
  refine (pe_cmp (pc_notN ha)).imp fun σ H Q h => ?_
  obtain ⟨ι, env, st, S, R, p⟩ := h
  refine ⟨ι, env, st, S, R, p.bind fun ι1 px st1 x H1 g1 R1 rx p1 => ?_⟩
  cases rx <;> exact p1.here R1 (.bl _)
end
end Ev

namespace Ev
open PySem PySem.Spec L2

def isStar : Expr → Bool
  | .Starred _ _ => true
  | _ => false
theorem starEach_cons {e : Expr} {es : List Expr} {env : PySem.Env} (h : isStar e = false) : starEach (e :: es) env = (false, eval e env) :: starEach es env := by
  cases e <;> first | rfl | cases h
def noStar : List Expr → Bool
  | [] => true
  | e :: r => !isStar e && noStar r
theorem noStar_any {env : PySem.Env} {pos : Pos} : ∀ {es : List Expr}, noStar es = true → (backTo pos (starEach es env)).any (·.1) = false
  | [], _ => rfl
  | e :: r, h => by
    have h1 : isStar e = false ∧ noStar r = true := by simpa [noStar] using h
    rw [starEach_cons h1.1]
    show (false || (backTo pos (starEach r env)).any (·.1)) = false
    rw [noStar_any h1.2]
    rfl

section
variable {X : Cx} {W : WX} {e : Expr} {es : List Expr} {m : Env → Store → Res PV} {ms : Env → Store → Res (List PV)} {mq : Env → Store → Res (Src × List PV)} {pos : Pos}
theorem sa_nil : SA X W [] (fun _ st => .ok [] st) := by
  refine pa_nil.imp fun σ H Q h => ?_
  obtain ⟨ι, env, st, S, R, p⟩ := h
  exact p.here R .nil
theorem sa_cons (ha : SE X W e m) (hr : SA X W es ms) (hs : isStar e = false) : SA X W (e :: es) (fun env st => (m env st).bind fun v st1 => (ms env st1).bind fun vs st2 => .ok (v :: vs) st2) := by
  refine (pa_cons ha hr (starEach_cons hs)).imp fun σ H Q h => ?_
  obtain ⟨ι, env, st, S, R, p⟩ := h
  refine ⟨ι, env, st, S, R, p.bind fun ι1 px st1 x H1 g1 R1 rx p1 => ?_⟩
  refine ⟨ι1, env, st1, S.grow R g1, R1, p1.bind fun ι2 py st2 y H2 g2 R2 ry p2 => ?_⟩
  exact p2.here R2 (.cons (Rep.grow R1 g2 rx) ry)
theorem LRep.sqT {K : PySem.W.Frag} {mg : Str → Option Value} {H0 : Hp} {ι : List Addr} {H : Hp} {st : Store} {q : Src × List PV} {v : V} (h : LRep K mg H0 ι H st q v) : ∃ a vs, v = .ref a ∧ Reps K mg ι H q.2 vs ∧ (SqT K H a vs ∨ SqL K H a vs) := by
  obtain ⟨a, vs, e, hs, h⟩ := h.sq
  exact ⟨a, vs, e, hs, h.symm⟩
theorem sa_star {p : Pos} (ha : SQ X W e mq) (hr : SA X W es ms) : SA X W (.Starred e p :: es) (fun env st => (mq env st).bind fun q st1 => (ms env st1).bind fun vs st2 => .ok (q.2 ++ vs) st2) := by
  refine (StX.pa_star ha hr rfl).imp fun σ H Q h => ?_
  obtain ⟨ι, env, st, S, R, p⟩ := h
  refine ⟨ι, env, st, S, R, p.bind fun ι1 q st1 x H1 g1 R1 rx p1 => ?_⟩
  obtain ⟨a, vs, rfl, rs, hq⟩ := LRep.sqT rx
  refine ⟨a, vs, rfl, hq, ι1, env, st1, S.grow R g1, R1, p1.bind fun ι2 py st2 y H2 g2 R2 ry p2 => ?_⟩
  exact p2.here R2 (Reps.append (rs.grow R1 g2) ry)
theorem se_tupd {k : Nat} (h : SA X W es ms) : SE X W (.Tuple es k pos) (fun env st => (ms env st).bind fun vs st1 => if vs.length ≤ sizeLine then .ok (.tup vs) st1 else .stuck) := by
  refine (pe_tup h).imp fun σ H Q h => ?_
  obtain ⟨ι, env, st, S, R, p⟩ := h
  refine ⟨ι, env, st, S, R, p.bind fun ι1 xs st1 vs H1 g1 R1 rx p1 => ?_⟩
  have rx : Reps X.K X.mg ι1 H1 xs vs := rx
  split at p1
  · rename_i hl
    exact ⟨by rw [← rx.length]; exact hl, fun q hq => post_tup p1 R1 rx hq⟩
  · exact p1.elim
theorem sq_disp (h : SA X W es ms) : SQ X W (.List es pos) (fun env st => (ms env st).bind fun vs st1 => if vs.length ≤ sizeLine then .ok (.tmp, vs) st1 else .stuck) := by
  refine (pe_lst h).imp fun σ H Q h => ?_
  obtain ⟨ι, env, st, S, R, p⟩ := h
  refine ⟨ι, env, st, S, R, p.bind fun ι1 xs st1 vs H1 g1 R1 rx p1 => ?_⟩
  have rx : Reps X.K X.mg ι1 H1 xs vs := rx
  split at p1
  · rename_i hl
    refine ⟨by rw [← rx.length]; exact hl, fun q hq => p1.lay R1 hq ?_⟩
    exact ⟨q, vs, rfl, rx.grow R1 (Grow.lay hq), upd_same, R1.fresh hq, hq⟩
  · exact p1.elim
theorem sq_val (h : SE X W e m) : SQ X W e (fun env st => (m env st).bind fun x st1 => match items x st1 with
    | some q => .ok q st1
    | none => .stuck) := by
  refine h.imp fun σ H Q h => ?_
  obtain ⟨ι, env, st, S, R, p⟩ := h
  refine ⟨ι, env, st, S, R, p.bind fun ι1 px st1 x H1 g1 R1 rx p1 => ?_⟩
  cases ei : items px st1 with
  | none => rw [ei] at p1; exact p1.elim
  | some q =>
    rw [ei] at p1
    exact p1.here R1 (items_rep R1 rx ei)
/-- a list of its own becomes one of the store's -/
theorem se_mk (h : SQ X W e mq) : SE X W e (fun env st => (mq env st).bind fun q st1 => match q.1 with
    | .tmp => allocL q.2 st1
    | _ => .stuck) := by
  refine h.imp fun σ H Q h => ?_
  obtain ⟨ι, env, st, S, R, p⟩ := h
  refine ⟨ι, env, st, S, R, ?_⟩
  dsimp only at p
  generalize hr : mq env st = r at p
  cases r with
  | stuck => exact p
  | exc x s1 => exact p
  | ok q st1 =>
    obtain ⟨src, xs⟩ := q
    intro v ι1 H1 g1 R1 rx
    obtain ⟨a, vs, rfl, rs, hq⟩ := rx
    cases src with
    | tmp =>
      simp only [Res.bind, allocL] at p
      obtain ⟨h1, h2, h3⟩ := hq
      refine p _ _ _ (g1.snoc h3) (R1.push h1 h2 rs) (.obj ?_)
      rw [List.getElem?_append_right (by rw [R1.len]; exact Nat.le_refl _), R1.len, Nat.sub_self]
      rfl
    | tup => exact p.elim
    | obj n => exact p.elim
    | rol => exact p.elim

/-! ### built-ins by values -/
theorem pa_one {t : TE} (h : PE X e t) (hs : isStar e = false) : PA X [e] (fun σ H Q => t σ H fun v H1 => Q [v] H1) := (pa_cons h pa_nil (starEach_cons hs)).imp fun _ _ _ q => q
/-- a built-in of one sequence -/
def rCb (K : PySem.W.Frag) (mg : Str → Option Value) (W : WX) (g : Src × List PV → Store → Res PV) : List V → Hp → VK → Prop := fun xs H Q =>
  ∃ σ ι H0 q st v, xs = [v] ∧ Rel K mg ι H st ∧ LRep K mg H0 ι H st q v ∧ Post (kE (K := K) (mg := mg)) W σ ι H Q (g q st)
theorem se_cbB {x : Str} {id : String} {p : Pos} {g : Src × List PV → Store → Res PV} (hc : CallR X (.builtin id) (rCb X.K X.mg W g)) (hg : Gl X x) (hm : X.mg x = none) (hv : bootBuiltins x = some (.builtin id)) (hn : x ≠ "__name__") (hdb : (x == ("__debug__" : Str)) = false)
    (ha : SQ X W e mq) (hs : isStar e = false) : SE X W (.Call (.Name x p) [e] [] pos) (fun env st => (mq env st).bind fun q st1 => g q st1) := by
  refine (pe_callB hc hg hm hv (pa_one ha hs) hn hdb (starEach_cons hs)).imp fun σ H Q h => ?_
  obtain ⟨ι, env, st, S, R, p⟩ := h
  refine ⟨ι, env, st, S, R, p.bind fun ι1 q st1 v H1 g1 R1 rx p1 => ?_⟩
  exact ⟨σ, ι1, H, q, st1, v, rfl, R1, rx, p1⟩
theorem se_cbT {x : Str} {id : String} {p : Pos} {g : Src × List PV → Store → Res PV} (hc : CallR X (.type id) (rCb X.K X.mg W g)) (hg : Gl X x) (hm : X.mg x = none) (hv : bootBuiltins x = some (.type id)) (hn : x ≠ "__name__") (hdb : (x == ("__debug__" : Str)) = false)
    (ha : SQ X W e mq) (hs : isStar e = false) : SE X W (.Call (.Name x p) [e] [] pos) (fun env st => (mq env st).bind fun q st1 => g q st1) := by
  refine (pe_callTy hc hg hm hv (pa_one ha hs) hn hdb (starEach_cons hs)).imp fun σ H Q h => ?_
  obtain ⟨ι, env, st, S, R, p⟩ := h
  refine ⟨ι, env, st, S, R, p.bind fun ι1 q st1 v H1 g1 R1 rx p1 => ?_⟩
  exact ⟨σ, ι1, H, q, st1, v, rfl, R1, rx, p1⟩
theorem cb_tuple : CallR X (.type "tuple") (rCb X.K X.mg W (evCbl .tuple)) := by
  refine call_tuple_of.imp fun xs H Q h => ?_
  obtain ⟨σ, ι, H0, q, st, v, rfl, R, rx, p⟩ := h
  obtain ⟨a, vs, rfl, rs, hq⟩ := rx.sq
  refine ⟨a, vs, rfl, ?_⟩
  rcases hq with hq | hq
  · exact .inl ⟨hq, fun l hl => post_tup p R rs hl⟩
  · exact .inr ⟨hq, p.here R (.tup hq rs)⟩
theorem cb_len : CallR X (.builtin "len") (rCb X.K X.mg W (evCbl .len)) := by
  refine call_len_seq.imp fun xs H Q h => ?_
  obtain ⟨σ, ι, H0, q, st, v, rfl, R, rx, p⟩ := h
  obtain ⟨a, vs, rfl, rs, hq⟩ := rx.sq
  exact ⟨a, vs, rfl, hq, by rw [← rs.length]; exact p.here R (.int _)⟩
open PyProof.Rows in
/-- sum of a tuple -/
theorem cr_sumT (hc : X.calm = true) : CallR X (.builtin "sum") (fun vs H Q => ∃ (a : Addr) (ns : List Int), vs = [V.ref a] ∧ SqT X.K H a (ns.map V.int) ∧ Q (.int ns.sum) H) := by
  intro pins s σ H vs us Q I r h
  obtain ⟨a, ns, rfl, hs, q⟩ := h
  obtain ⟨its, rv, hl, _⟩ := I.tuple hs
  rw [Vals.ref1 r]
  have hi : IntsAre its ns := rv.ints
  obtain ⟨xs, e⟩ := hi.allInts.items
  have hn : numsOf (intItems xs).toList = ns := by rw [← e]; exact hi.numsOf
  rw [nums_intItems] at hn
  rw [e] at hl
  refine PySem.W.ktm_sumG (I.ok.hd hc) hl fun h' tk t' hk => ?_
  rw [preSum_eq, List.take_of_length_le (by simp), hn]
  exact ⟨.int _, H, I.kept hk, ⟨_, rfl⟩, q⟩
theorem cb_sum (hc : X.calm = true) : CallR X (.builtin "sum") (rCb X.K X.mg W (evCbl .sum)) := by
  refine (CallR.or (cr_sum hc) (cr_sumT hc)).imp fun xs H Q h => ?_
  obtain ⟨σ, ι, H0, q, st, v, rfl, R, rx, p⟩ := h
  simp only [evCbl] at p
  cases ei : intsOf q.2 with
  | none => rw [ei] at p; exact p.elim
  | some ns =>
    rw [ei] at p
    obtain ⟨a, vs, rfl, rs, hq⟩ := rx.sq
    have e := rs.ints ei
    subst e
    rcases hq with hq | hq
    · exact .inl ⟨a, ns, rfl, hq, p.here R (.int _)⟩
    · exact .inr ⟨a, ns, rfl, hq, p.here R (.int _)⟩
theorem cb_all (hc : X.calm = true) : CallR X (.builtin "all") (rCb X.K X.mg W (evCbl .all)) := by
  refine (cr_all hc).imp fun xs H Q h => ?_
  obtain ⟨σ, ι, H0, q, st, v, rfl, R, rx, p⟩ := h
  simp only [evCbl] at p
  split at p
  · rename_i bs hl ei
    obtain ⟨a, vs, rfl, rs, hq⟩ := rx.lst hl
    have e := rs.bools ei
    subst e
    exact ⟨a, bs, rfl, hq, p.here R (.bl _)⟩
  · exact p.elim
theorem cb_any (hc : X.calm = true) : CallR X (.builtin "any") (rCb X.K X.mg W (evCbl .any)) := by
  refine (cr_any hc).imp fun xs H Q h => ?_
  obtain ⟨σ, ι, H0, q, st, v, rfl, R, rx, p⟩ := h
  simp only [evCbl] at p
  split at p
  · rename_i bs hl ei
    obtain ⟨a, vs, rfl, rs, hq⟩ := rx.lst hl
    have e := rs.bools ei
    subst e
    exact ⟨a, bs, rfl, hq, p.here R (.bl _)⟩
  · exact p.elim
theorem maxI_mem : ∀ (ns : List Int) (n : Int), maxI n ns ∈ n :: ns ∧ ∀ y ∈ n :: ns, y ≤ maxI n ns
  | [], n => ⟨by simp [maxI], fun y hy => by simp at hy; subst hy; exact Int.le_refl _⟩
  | x :: r, n => by
    obtain ⟨h1, h2⟩ := maxI_mem r (if n < x then x else n)
    simp only [maxI]
    refine ⟨?_, fun y hy => ?_⟩
    · rcases List.mem_cons.mp h1 with h | h
      · rw [h]
        split
        · simp
        · simp
      · exact List.mem_cons_of_mem _ (List.mem_cons_of_mem _ h)
    · have hm := h2 _ List.mem_cons_self
      generalize maxI (if n < x then x else n) r = M at hm h2 ⊢
      rcases List.mem_cons.mp hy with h | hy
      · subst h
        split at hm <;> omega
      · rcases List.mem_cons.mp hy with h | hy
        · subst h
          split at hm <;> omega
        · exact h2 y (List.mem_cons_of_mem _ hy)
theorem minI_mem : ∀ (ns : List Int) (n : Int), minI n ns ∈ n :: ns ∧ ∀ y ∈ n :: ns, minI n ns ≤ y
  | [], n => ⟨by simp [minI], fun y hy => by simp at hy; subst hy; exact Int.le_refl _⟩
  | x :: r, n => by
    obtain ⟨h1, h2⟩ := minI_mem r (if x < n then x else n)
    simp only [minI]
    refine ⟨?_, fun y hy => ?_⟩
    · rcases List.mem_cons.mp h1 with h | h
      · rw [h]
        split
        · simp
        · simp
      · exact List.mem_cons_of_mem _ (List.mem_cons_of_mem _ h)
    · have hm := h2 _ List.mem_cons_self
      generalize minI (if x < n then x else n) r = M at hm h2 ⊢
      rcases List.mem_cons.mp hy with h | hy
      · subst h
        split at hm <;> omega
      · rcases List.mem_cons.mp hy with h | hy
        · subst h
          split at hm <;> omega
        · exact h2 y (List.mem_cons_of_mem _ hy)
theorem cb_max (hc : X.calm = true) : CallR X (.builtin "max") (rCb X.K X.mg W (evCbl .max)) := by
  refine (cr_max hc).imp fun xs H Q h => ?_
  obtain ⟨σ, ι, H0, q, st, v, rfl, R, rx, p⟩ := h
  simp only [evCbl] at p
  split at p
  · rename_i n ns hl ei
    obtain ⟨a, vs, rfl, rs, hq⟩ := rx.lst hl
    have e := rs.ints ei
    subst e
    refine ⟨a, n :: ns, rfl, hq, by simp, fun m hm hle => ?_⟩
    obtain ⟨h1, h2⟩ := maxI_mem ns n
    have e : m = maxI n ns := Int.le_antisymm (h2 m hm) (hle _ h1)
    rw [e]
    exact p.here R (.int _)
  · exact p.elim
theorem cb_min (hc : X.calm = true) : CallR X (.builtin "min") (rCb X.K X.mg W (evCbl .min)) := by
  refine (cr_min hc).imp fun xs H Q h => ?_
  obtain ⟨σ, ι, H0, q, st, v, rfl, R, rx, p⟩ := h
  simp only [evCbl] at p
  split at p
  · rename_i n ns hl ei
    obtain ⟨a, vs, rfl, rs, hq⟩ := rx.lst hl
    have e := rs.ints ei
    subst e
    refine ⟨a, n :: ns, rfl, hq, by simp, fun m hm hle => ?_⟩
    obtain ⟨h1, h2⟩ := minI_mem ns n
    have e : m = minI n ns := Int.le_antisymm (hle _ h1) (h2 m hm)
    rw [e]
    exact p.here R (.int _)
  · exact p.elim
/-- list(x) -/
theorem sq_lst {p : Pos} (hg : Gl X "list") (hm : X.mg "list" = none) (ha : SQ X W e mq) (hs : isStar e = false) : SQ X W (.Call (.Name "list" p) [e] [] pos) (fun env st => (mq env st).bind fun q st1 => .ok (.tmp, q.2) st1) := by
  refine (pe_callTy call_list_of hg hm PyProof.Rows.boot_list (pa_one ha hs) (by decide) (by decide) (starEach_cons hs)).imp fun σ H Q h => ?_
  obtain ⟨ι, env, st, S, R, p⟩ := h
  refine ⟨ι, env, st, S, R, p.bind fun ι1 q st1 v H1 g1 R1 rx p1 => ?_⟩
  obtain ⟨a, vs, rfl, rs, hq⟩ := LRep.sq rx
  refine ⟨a, vs, rfl, hq, fun l hl => p1.lay R1 hl ?_⟩
  exact ⟨l, vs, rfl, rs.grow R1 (Grow.lay hl), upd_same, R1.fresh hl, hl⟩
/-- a built-in of values -/
def rBb (K : PySem.W.Frag) (mg : Str → Option Value) (W : WX) (g : List PV → Store → Res PV) : List V → Hp → VK → Prop := fun vs H Q =>
  ∃ σ ι xs st, Rel K mg ι H st ∧ Reps K mg ι H xs vs ∧ Post (kE (K := K) (mg := mg)) W σ ι H Q (g xs st)
theorem se_bbB {x : Str} {id : String} {p : Pos} {g : List PV → Store → Res PV} (hc : CallR X (.builtin id) (rBb X.K X.mg W g)) (hg : Gl X x) (hm : X.mg x = none) (hv : bootBuiltins x = some (.builtin id)) (hn : x ≠ "__name__") (hdb : (x == ("__debug__" : Str)) = false)
    (ha : SA X W (e :: es) ms) (hs : isStar e = false) (hr : noStar es = true) : SE X W (.Call (.Name x p) (e :: es) [] pos) (fun env st => (ms env st).bind fun vs st1 => g vs st1) := by
  refine (pe_callB hc hg hm hv ha hn hdb (starEach_cons hs) (noStar_any hr)).imp fun σ H Q h => ?_
  obtain ⟨ι, env, st, S, R, p⟩ := h
  refine ⟨ι, env, st, S, R, p.bind fun ι1 q st1 v H1 g1 R1 rx p1 => ?_⟩
  exact ⟨σ, ι1, q, st1, R1, rx, p1⟩
theorem se_bbT {x : Str} {id : String} {p : Pos} {g : List PV → Store → Res PV} (hc : CallR X (.type id) (rBb X.K X.mg W g)) (hg : Gl X x) (hm : X.mg x = none) (hv : bootBuiltins x = some (.type id)) (hn : x ≠ "__name__") (hdb : (x == ("__debug__" : Str)) = false)
    (ha : SA X W (e :: es) ms) (hs : isStar e = false) (hr : noStar es = true) : SE X W (.Call (.Name x p) (e :: es) [] pos) (fun env st => (ms env st).bind fun vs st1 => g vs st1) := by
  refine (pe_callTy hc hg hm hv ha hn hdb (starEach_cons hs) (noStar_any hr)).imp fun σ H Q h => ?_
  obtain ⟨ι, env, st, S, R, p⟩ := h
  refine ⟨ι, env, st, S, R, p.bind fun ι1 q st1 v H1 g1 R1 rx p1 => ?_⟩
  exact ⟨σ, ι1, q, st1, R1, rx, p1⟩
theorem bb_abs : CallR X (.builtin "abs") (rBb X.K X.mg W (evBlt .abs)) := by
  refine call_abs.imp fun xs H Q h => ?_
  obtain ⟨σ, ι, ps, st, R, rs, p⟩ := h
  simp only [evBlt] at p
  split at p
  · cases rs with
    | cons h1 h2 =>
      cases h1
      cases h2
      exact ⟨_, rfl, p.here R (.int _)⟩
  · exact p.elim
theorem bb_int : CallR X (.type "int") (rBb X.K X.mg W (evBlt .int)) := by
  refine call_int1.imp fun xs H Q h => ?_
  obtain ⟨σ, ι, ps, st, R, rs, p⟩ := h
  simp only [evBlt] at p
  split at p
  · cases rs with
    | cons h1 h2 =>
      cases h1
      cases h2
      exact .inl ⟨_, rfl, p.here R (.int _)⟩
  · cases rs with
    | cons h1 h2 =>
      cases h1
      cases h2
      exact .inr ⟨_, rfl, p.here R (.int _)⟩
  · exact p.elim
theorem bb_max2 (hc : X.calm = true) : CallR X (.builtin "max") (rBb X.K X.mg W (evBlt .max2)) := by
  refine (call_max2 hc).imp fun xs H Q h => ?_
  obtain ⟨σ, ι, ps, st, R, rs, p⟩ := h
  simp only [evBlt] at p
  split at p
  · cases rs with
    | cons h1 h2 =>
      cases h1
      cases h2 with
      | cons h3 h4 =>
        cases h3
        cases h4
        exact ⟨_, _, rfl, p.here R (.int _)⟩
  · exact p.elim
theorem bb_min2 (hc : X.calm = true) : CallR X (.builtin "min") (rBb X.K X.mg W (evBlt .min2)) := by
  refine (call_min2 hc).imp fun xs H Q h => ?_
  obtain ⟨σ, ι, ps, st, R, rs, p⟩ := h
  simp only [evBlt] at p
  split at p
  · cases rs with
    | cons h1 h2 =>
      cases h1
      cases h2 with
      | cons h3 h4 =>
        cases h3
        cases h4
        exact ⟨_, _, rfl, p.here R (.int _)⟩
  · exact p.elim
/-- the type of a value -/
theorem tyName_ok {K : PySem.W.Frag} {mg : Str → Option Value} {ι : List Addr} {H : Hp} {st : Store} (R : Rel K mg ι H st) {x : PV} {v : V} {t : String} (r : Rep K mg ι H x v) (e : tyName x st = some t) : TyX K H v (.type t) := by
  cases r with
  | non => cases e; exact .base .non
  | bl b => cases e; exact .base (.bl b)
  | int i => cases e; exact .base (.int i)
  | str y => cases e; exact .base (.str y)
  | tup s1 r1 =>
    cases e
    rcases s1 with (s1 | ⟨o, s1⟩) | ⟨o, its, n, s1, s2, _⟩
    · exact .base (.tup s1)
    · exact .fTuple s1
    · exact .kTuple s1 s2
  | @obj n a hn =>
    obtain ⟨o, ho, hr⟩ := R.obj n a hn
    simp only [tyName, ho] at e
    cases o with
    | lst xs =>
      obtain ⟨vs, h1, r1⟩ := hr
      cases e
      exact .base (.lst h1)
    | dct kvs =>
      obtain ⟨kws, h1, r1, r2⟩ := hr
      cases e
      exact .base (.dK h1)
  | _ => simp [tyName] at e
theorem isiT_ok {K : PySem.W.Frag} {t u : String} {b : Bool} (e : isiT t u = some b) : PySem.W.kitOne K (.type t) (.type u) = some b := by
  unfold isiT at e
  split at e <;> (first | cases e | skip) <;> (split at e <;> first | (cases e; exact kit_ty (by decide +kernel)) | cases e)
/-- isinstance(e, T), T a built-in type -/
theorem se_isi {T : Str} {t : String} {p1 p2 : Pos} (hg : Gl X "isinstance") (hm : X.mg "isinstance" = none) (hgT : Gl X T) (hmT : X.mg T = none) (hv : bootBuiltins T = some (.type t)) (hn : T ≠ "__name__") (hdb : (T == ("__debug__" : Str)) = false) (hcl : ClsV (.ty t) (.type t))
    (ha : SE X W e m) (hs : isStar e = false) : SE X W (.Call (.Name "isinstance" p1) [e, .Name T p2] [] pos) (fun env st => (m env st).bind fun x st1 => evBlt (.isi t) [x] st1) := by
  have hT : PE X (.Name T p2) (tC (.ty t)) := pe_bltn hgT hmT hv rfl hn hdb
  refine (pe_callB call_isi hg hm PyProof.Rows.boot_isinstance (pa_cons ha (pa_cons hT pa_nil rfl) (starEach_cons hs)) (by decide) (by decide) (starEach_cons hs) rfl).imp fun σ H Q h => ?_
  obtain ⟨ι, env, st, S, R, p⟩ := h
  refine ⟨ι, env, st, S, R, p.bind fun ι1 px st1 x H1 g1 R1 rx p1 => ?_⟩
  simp only [evBlt] at p1
  cases e1 : tyName px st1 with
  | none => rw [e1] at p1; exact p1.elim
  | some n =>
    rw [e1] at p1
    simp only at p1
    cases e2 : isiT n t with
    | none => rw [e2] at p1; exact p1.elim
    | some b =>
      rw [e2] at p1
      exact ⟨x, .ty t, .type n, .type t, b, rfl, hcl, tyName_ok R1 rx e1, isiT_ok e2, p1.here R1 (.bl _)⟩
end
end Ev

namespace Ev
open PySem PySem.Spec PyProof.Rows L2

/-! ### dicts -/
theorem putKO_eq (k : Key) (v : PV) : ∀ kvs : List (Key × PV), putKP.putKO kvs k v = kvs.map fun kv => if kv.1 = k then (kv.1, v) else kv
  | [] => rfl
  | (j, x) :: r => by
    simp only [putKP.putKO, List.map_cons, putKO_eq k v r]
theorem putKP_eq (k : Key) (v : PV) : ∀ kvs : List (Key × PV), putKP kvs k v = if (kvs.any fun kv => decide (kv.1 = k)) = true then kvs.map (fun kv => if kv.1 = k then (kv.1, v) else kv) else kvs ++ [(k, v)]
  | [] => rfl
  | (j, x) :: r => by
    simp only [putKP, List.any_cons, List.map_cons]
    by_cases h : j = k
    · simp [h, putKO_eq]
    · rw [if_neg h, putKP_eq k v r]
      simp only [h, decide_false, Bool.false_or, if_false]
      split <;> rfl
section
variable {K : PySem.W.Frag} {mg : Str → Option Value} {ι ι' : List Addr} {H H' : Hp} {st : Store}
theorem RepK.nil : RepK K mg ι H [] [] := ⟨rfl, .nil⟩
theorem RepK.cons {k : Key} {x : PV} {v : V} {kvs : List (Key × PV)} {kws : List (Key × V)} (h : Rep K mg ι H x v) (r : RepK K mg ι H kvs kws) : RepK K mg ι H ((k, x) :: kvs) ((k, v) :: kws) :=
  ⟨by simp [r.1], .cons h r.2⟩
theorem RepK.inv {k : Key} {x : PV} {kvs : List (Key × PV)} {kws : List (Key × V)} (h : RepK K mg ι H ((k, x) :: kvs) kws) : ∃ v r, kws = (k, v) :: r ∧ Rep K mg ι H x v ∧ RepK K mg ι H kvs r := by
  obtain ⟨h1, h2⟩ := h
  cases kws with
  | nil => cases h1
  | cons q r =>
    obtain ⟨j, v⟩ := q
    simp only [List.map_cons, List.cons.injEq] at h1
    obtain ⟨rfl, h1⟩ := h1
    cases h2 with
    | cons a b => exact ⟨v, r, rfl, a, h1, b⟩
theorem RepK.inv0 {kws : List (Key × V)} (h : RepK K mg ι H [] kws) : kws = [] := by
  cases kws with
  | nil => rfl
  | cons q r => cases h.1
theorem RepK.val (k : Key) : ∀ {kvs : List (Key × PV)} {kws : List (Key × V)} {x : PV}, RepK K mg ι H kvs kws → valP kvs k = some x → ∃ v, valV kws k = some v ∧ Rep K mg ι H x v
  | [], _, _, _, e => by cases e
  | (j, y) :: kvs, kws, x, h, e => by
    obtain ⟨v, r, rfl, rv, h2⟩ := h.inv
    simp only [valP] at e
    by_cases q : j = k
    · rw [if_pos q] at e
      cases e
      exact ⟨v, valV_pos (p := (j, v)) q, rv⟩
    · rw [if_neg q] at e
      obtain ⟨w, e1, e2⟩ := RepK.val k h2 e
      exact ⟨w, by rw [valV_neg (p := (j, v)) q]; exact e1, e2⟩
theorem RepK.val0 (k : Key) : ∀ {kvs : List (Key × PV)} {kws : List (Key × V)}, RepK K mg ι H kvs kws → valP kvs k = none → valV kws k = none
  | [], _, h, e => by rw [h.inv0]; rfl
  | (j, y) :: kvs, kws, h, e => by
    obtain ⟨v, r, rfl, rv, h2⟩ := h.inv
    simp only [valP] at e
    by_cases q : j = k
    · rw [if_pos q] at e; cases e
    · rw [if_neg q] at e
      rw [valV_neg (p := (j, v)) q]
      exact RepK.val0 k h2 e
theorem RepK.length {kvs : List (Key × PV)} {kws : List (Key × V)} (h : RepK K mg ι H kvs kws) : kvs.length = kws.length := by
  have := congrArg List.length h.1
  simpa using this
theorem RepK.any (k : Key) {kvs : List (Key × PV)} {kws : List (Key × V)} (h : RepK K mg ι H kvs kws) : (kvs.any fun kv => decide (kv.1 = k)) = kws.any fun kv => decide (kv.1 = k) := by
  have := congrArg (List.any · fun j => decide (j = k)) h.1
  simpa [List.any_map, Function.comp_def] using this
theorem RepK.map {k : Key} {x : PV} {v : V} (hx : Rep K mg ι H x v) : ∀ {kvs : List (Key × PV)} {kws : List (Key × V)}, RepK K mg ι H kvs kws → RepK K mg ι H (kvs.map fun kv => if kv.1 = k then (kv.1, x) else kv) (kws.map fun kv => if kv.1 = k then (kv.1, v) else kv)
  | [], _, h => by rw [h.inv0]; exact .nil
  | (j, y) :: kvs, kws, h => by
    obtain ⟨w, r, rfl, rw', h2⟩ := h.inv
    simp only [List.map_cons]
    by_cases q : j = k
    · rw [if_pos q, if_pos q]; exact .cons hx (RepK.map hx h2)
    · rw [if_neg q, if_neg q]; exact .cons rw' (RepK.map hx h2)
theorem RepK.snoc {k : Key} {x : PV} {v : V} (hx : Rep K mg ι H x v) : ∀ {kvs : List (Key × PV)} {kws : List (Key × V)}, RepK K mg ι H kvs kws → RepK K mg ι H (kvs ++ [(k, x)]) (kws ++ [(k, v)])
  | [], _, h => by rw [h.inv0]; exact .cons hx .nil
  | (j, y) :: kvs, kws, h => by
    obtain ⟨w, r, rfl, rw', h2⟩ := h.inv
    exact .cons rw' (RepK.snoc hx h2)
theorem RepK.put {k : Key} {x : PV} {v : V} (hx : Rep K mg ι H x v) {kvs : List (Key × PV)} {kws : List (Key × V)} (h : RepK K mg ι H kvs kws) : RepK K mg ι H (putKP kvs k x) (putK kws k v) := by
  rw [putKP_eq]
  unfold putK
  rw [h.any k]
  split
  · exact h.map hx
  · exact h.snoc hx
theorem RepK.grow {kvs : List (Key × PV)} {kws : List (Key × V)} (R : Rel K mg ι H st) (g : Grow ι H ι' H') (h : RepK K mg ι H kvs kws) : RepK K mg ι' H' kvs kws := ⟨h.1, h.2.grow R g⟩
theorem keyP_rep {x : PV} {v : V} {k : Key} (h : Rep K mg ι H x v) (e : keyP x = some k) : v = kV k := by
  cases h <;> simp [keyP] at e
  all_goals (subst e; rfl)
theorem Rel.dct {n : Nat} {a : Addr} {kvs : List (Key × PV)} (R : Rel K mg ι H st) (e : ι[n]? = some a) (h : st.get n = some (.dct kvs)) : ∃ kws, H a = some (.dK kws) ∧ RepK K mg ι H kvs kws := by
  obtain ⟨o, h1, h2⟩ := R.obj n a e
  rw [h] at h1
  cases h1
  exact h2
/-- a thing that stands becomes one of the store's -/
theorem Rel.pushO (R : Rel K mg ι H st) {p : Addr} {o : MO} (h : RepO K mg ι H p o) (hp : p ∉ ι) : Rel K mg (ι ++ [p]) H (st.push o) := by
  have monos : ∀ {xs vs}, Reps K mg ι H xs vs → Reps K mg (ι ++ [p]) H xs vs := by
    intro x v hx
    exact Reps.rec (motive_1 := fun x v _ => Rep K mg (ι ++ [p]) H x v) (motive_2 := fun xs vs _ => Reps K mg (ι ++ [p]) H xs vs)
      .non (fun b => .bl b) (fun i => .int i) (fun x => .str x) (fun a _ b => .tup a b)
      (fun {n a} e => .obj (by rw [List.getElem?_append_left (List.getElem?_eq_some_iff.mp e).1]; exact e)) (fun t => .ty t) (fun e => .glo e) (fun a _ b => .rol a b) (fun d => .shw d) .nil (fun _ _ a b => .cons a b) hx
  have mo : ∀ {a u}, RepO K mg ι H a u → RepO K mg (ι ++ [p]) H a u := by
    intro a u h2
    cases u with
    | lst xs => obtain ⟨vs, a1, a2⟩ := h2; exact ⟨vs, a1, monos a2⟩
    | dct kvs => obtain ⟨kws, a1, a2, a3⟩ := h2; exact ⟨kws, a1, a2, monos a3⟩
  refine ⟨by simp [Store.push, R.len], ?_, fun n a e => ?_, fun n hn' => ?_⟩
  · rw [List.nodup_append]
    refine ⟨R.nd, by simp, fun a ha b hb => ?_⟩
    simp at hb
    subst hb
    rintro rfl
    exact hp ha
  · by_cases hlt : n < ι.length
    · rw [List.getElem?_append_left hlt] at e
      obtain ⟨u, h1, h2⟩ := R.obj n a e
      refine ⟨u, ?_, mo h2⟩
      rw [Store.get_push_ne (by rw [← R.len]; omega)]
      exact h1
    · rw [List.getElem?_append_right (by omega)] at e
      have e0 : n - ι.length = 0 := by
        cases hk : n - ι.length with
        | zero => rfl
        | succ k => rw [hk] at e; simp at e
      rw [e0] at e
      simp at e
      subst e
      have en : n = st.n := by rw [← R.len]; omega
      refine ⟨o, ?_, mo h⟩
      rw [en, Store.get_push_same]
  · have h1 : st.n + 1 ≤ n := hn'
    rw [Store.get_push_ne (by omega)]
    exact R.out n (by omega)
/-- a dict of the store is written -/
theorem Rel.putD (R : Rel K mg ι H st) {n : Nat} {a : Addr} {kvs : List (Key × PV)} {kws : List (Key × V)} (e : ι[n]? = some a) (hs : RepK K mg ι H kvs kws) :
    Rel K mg ι (upd H a (.dK kws)) (st.put n (.dct kvs)) ∧ Grow ι H ι (upd H a (.dK kws)) := by
  have ha : a ∈ ι := List.mem_of_getElem? e
  have g : Grow ι H ι (upd H a (.dK kws)) := ⟨List.prefix_refl _, fun _ h => .inl h, fun b u q hb => by
    rw [upd_ne]
    · exact q
    · rintro rfl
      exact hb ha⟩
  have hn : n < ι.length := (List.getElem?_eq_some_iff.mp e).1
  refine ⟨⟨R.len, R.nd, fun m b q => ?_, fun m hm => ?_⟩, g⟩
  · by_cases hm : n = m
    · subst hm
      rw [e] at q
      cases q
      exact ⟨.dct kvs, Store.get_put_same, kws, upd_same, hs.grow R g⟩
    · obtain ⟨u, h1, h2⟩ := R.obj m b q
      refine ⟨u, by rw [Store.get_put_ne hm]; exact h1, h2.grow R g ?_⟩
      rw [upd_ne]
      rintro rfl
      have i1 := (List.getElem?_eq_some_iff.mp e)
      have i2 := (List.getElem?_eq_some_iff.mp q)
      obtain ⟨l1, k1⟩ := i1
      obtain ⟨l2, k2⟩ := i2
      exact hm ((List.getElem_inj R.nd).mp (k1.trans k2.symm))
  · have hm' : st.n ≤ m := hm
    rw [Store.get_put_ne (by have := R.len; omega)]
    exact R.out m hm'
end

/-! what lies beside a dict that is being made -/
section
variable {K : PySem.W.Frag} {mg : Str → Option Value} {ι : List Addr} {H : Hp} {st : Store} {D : Addr}
mutual
theorem Rep.besideD {us vs : List (Key × V)} (hD : H D = some (.dK us)) : ∀ {x : PV} {v : V}, Rep K mg ι H x v → Rep K mg ι (upd H D (.dK vs)) x v
  | _, _, .non => .non
  | _, _, .bl b => .bl b
  | _, _, .int i => .int i
  | _, _, .str x => .str x
  | _, _, .tup h hs => .tup (by
      rcases h with (h | ⟨o, h⟩) | h
      · exact .inl (.inl (by rw [upd_ne (ne_of h hD (by intro z; cases z))]; exact h))
      · exact .inl (.inr ⟨o, by rw [upd_ne (ne_of h hD (by intro z; cases z))]; exact h⟩)
      · exact .inr h) (Reps.besideD hD hs)
  | _, _, .obj h => .obj h
  | _, _, .ty t => .ty t
  | _, _, .glo h => .glo h
  | _, _, .rol h hs => .rol (by
      rcases h with ⟨o, h⟩ | h
      · exact .inl ⟨o, by rw [upd_ne (ne_of h hD (by intro z; cases z))]; exact h⟩
      · exact .inr h) (Reps.besideD hD hs)
  | _, _, .shw d => .shw d
theorem Reps.besideD {us vs : List (Key × V)} (hD : H D = some (.dK us)) : ∀ {xs : List PV} {ws : List V}, Reps K mg ι H xs ws → Reps K mg ι (upd H D (.dK vs)) xs ws
  | _, _, .nil => .nil
  | _, _, .cons h hs => .cons (Rep.besideD hD h) (Reps.besideD hD hs)
end
theorem Rel.besideD (R : Rel K mg ι H st) {us vs : List (Key × V)} (hD : H D = some (.dK us)) (hn : D ∉ ι) : Rel K mg ι (upd H D (.dK vs)) st :=
  ⟨R.len, R.nd, fun n a e => by
    obtain ⟨o, h1, h2⟩ := R.obj n a e
    have ne : a ≠ D := fun z => hn (z ▸ List.mem_of_getElem? e)
    refine ⟨o, h1, ?_⟩
    cases o with
    | lst xs => obtain ⟨ws, a1, a2⟩ := h2; exact ⟨ws, by rw [upd_ne ne]; exact a1, a2.besideD hD⟩
    | dct kvs => obtain ⟨ws, a1, a2, a3⟩ := h2; exact ⟨ws, by rw [upd_ne ne]; exact a1, a2, a3.besideD hD⟩, R.out⟩
end

/-! ### d[k] -/
section
variable {X : Cx} {W : WX}
theorem ix_dict (hu : X.A.units + 1 < cLine) : IxR X (fun x y H Q => ∃ a v, x = .ref a ∧ DGet H a y (some v) ∧ Q v H) := by
  intro value slice pins s σ H x y v u Q I rx ry h hs
  obtain ⟨a, r, rfl, g, q⟩ := h
  obtain rfl : v = Value.ref a := rx
  exact tail_any (dict_typeIs I g) PySem.F.slot_dict_getitem.lookup (d_getItem hu I g ry fun w' s3 I3 rw' => ⟨r, H, I3, rw', q⟩) hs
theorem PSet.or {r r' : TSet} (h : PSet X r) (h' : PSet X r') : PSet X (fun o i v H Q => r o i v H Q ∨ r' o i v H Q) := by
  intro pins s σ H o i v ov iv u Q I ro ri rv q
  rcases q with q | q
  · exact h pins s σ H o i v ov iv u Q I ro ri rv q
  · exact h' pins s σ H o i v ov iv u Q I ro ri rv q
theorem sub_dict {σ : L2.St} {ι : List Addr} {H : Hp} {Q : VK} {px : PV} {x : V} {k : Key} {st : Store} (R : Rel X.K X.mg ι H st) (rx : Rep X.K X.mg ι H px x) (p : Post (kE (K := X.K) (mg := X.mg)) W σ ι H Q (subD px k st)) : ∃ a v, x = .ref a ∧ DGet H a (kV k) (some v) ∧ Q v H := by
  unfold subD at p
  split at p
  · rename_i n
    split at p
    · rename_i kvs hn
      cases rx with
      | obj e =>
        obtain ⟨kws, h1, h2⟩ := R.dct e hn
        cases ev : valP kvs k with
        | none => rw [ev] at p; exact p.elim
        | some y =>
          rw [ev] at p
          obtain ⟨v, e1, e2⟩ := h2.val k ev
          exact ⟨_, v, rfl, e1 ▸ DGet.k h1, p.here R e2⟩
    · exact p.elim
  · exact p.elim
end

end Ev

namespace Ev
open PySem PySem.Spec PyProof.Rows L2
/-! ### sorted tuples of ints of any sign: their rank is the code of what they are, B more at each place -/
def cS (B : Int) (ns : List Int) : Int := TS.code (2 * B) (ns.map (· + B))
def bS (B : Int) (ns : List Int) : Prop := TS.Bd (2 * B) (ns.map (· + B))
theorem bS_tail {B d : Int} {r : List Int} (h : bS B (d :: r)) : bS B r := TS.Bd.tail (d := d + B) h
theorem cS_lt {B d e : Int} {r q : List Int} (hl : r.length = q.length) (hr : bS B r) (hq : bS B q) (h : d < e) : cS B (d :: r) < cS B (e :: q) := TS.code_lt (d := d + B) (e := e + B) (by simpa using hl) hr hq (by omega)
theorem cS_same {B d : Int} {r q : List Int} (hl : r.length = q.length) : cS B (d :: r) < cS B (d :: q) ↔ cS B r < cS B q := TS.code_same (d := d + B) (by simpa using hl)
theorem cS_no {B p q : Int} {r s : List Int} (hl : r.length = s.length) (h1 : bS B r) (h2 : bS B s) (e : p ≠ q) : decide (cS B (p :: r) < cS B (q :: s)) = decide (p < q) := by
  by_cases y : p < q
  · rw [decide_eq_true y, decide_eq_true (cS_lt hl h1 h2 y)]
  · have := cS_lt hl.symm h2 h1 (show q < p by omega)
    rw [decide_eq_false y, decide_eq_false (by omega)]
section
variable {prog : Program} {w : World} {A : Around} {E : Value → Shared → Prop} {s : Shared}
theorem lexS {B : Int} {b : Bool} {Q : Bool → Shared → Prop} : ∀ {us vs : List Value} {ns ms : List Int} (i : Nat), IntsAre us ns → IntsAre vs ms → ns.length = ms.length → bS B ns → bS B ms → Q (decide (cS B ns < cS B ms)) s → PySem.W.KatLex prog w A b false Q (us.zip vs) i s
  | _, _, _, _, i, .nil, .nil, _, _, _, q => PySem.W.kat_nil (by rw [decide_eq_false (Int.lt_irrefl _)] at q; exact q)
  | _, _, _, _, i, .nil, .cons _ _ _, hl, _, _, _ => by simp at hl
  | _, _, _, _, i, .cons _ _ _, .nil, hl, _, _, _ => by simp at hl
  | _, _, _, _, i, @IntsAre.cons n1 t1 us ns hx, @IntsAre.cons n2 t2 vs ms hy, hl, h1, h2, q => by
    have hl' : ns.length = ms.length := Nat.succ.inj hl
    show PySem.W.KatLex prog w A b false Q ((Value.int n1 t1, Value.int n2 t2) :: us.zip vs) i s
    refine PySem.W.kat_cons (wpAny_eqBool_int ?_)
    by_cases e : n1 = n2
    · subst e
      have r := lexS (B := B) (b := b) (Q := Q) (i + 1) hx hy hl' (bS_tail h1) (bS_tail h2) (by rw [decide_eq_decide.mpr (cS_same (d := n1) hl')] at q; exact q)
      rw [beq_self_eq_true]
      exact PySem.W.kat_yes r
    · rw [cS_no hl' (bS_tail h1) (bS_tail h2) e] at q
      rw [beq_eq_false_iff_ne.mpr e]
      exact PySem.W.kat_no (TS.oneLt_ints _ q)
def okTS (h : Heap) (d : Nat) (B : Int) (vs : List Value) : Prop := ∀ v ∈ vs, ∃ ns, TS.TupInts h v ns ∧ ns.length = d ∧ bS B ns
theorem okTS.keeps {h h' : Heap} {d : Nat} {B : Int} {vs : List Value} (x : okTS h d B vs) (k : ∀ b o, h.get? b = some o → o.cls = .type "tuple" → h'.get? b = some o) : okTS h' d B vs := fun v hv => by
  obtain ⟨ns, t, r⟩ := x v hv
  exact ⟨ns, t.keeps k, r⟩
theorem headsS {h : Heap} {d : Nat} {B : Int} (hd : 1 ≤ d) : ∀ us : List Value, okTS h d B us → ∃ fs, PySem.W.KatTups h us fs ∧ fs.length = us.length ∧ ∀ f ∈ fs, ∃ n t, f = Value.int n t
  | [], _ => ⟨[], .nil, rfl, fun f hf => nomatch hf⟩
  | u :: us, x => by
    obtain ⟨fs, k, hl, hi⟩ := headsS hd us fun v hv => x v (List.mem_cons_of_mem u hv)
    obtain ⟨ns, ⟨a, xs, e, ⟨o, ho, hc, n, hdt⟩, i⟩, hn, _⟩ := x u List.mem_cons_self
    subst e
    have il := i.length
    cases q : xs.toList with
    | nil => rw [q] at il; simp at il; omega
    | cons y ys =>
      obtain ⟨m, t, hy⟩ := i.all y (by rw [q]; exact List.mem_cons_self)
      refine ⟨y :: fs, .cons ho hc hdt ?_ k, congrArg Nat.succ hl, fun f hf => ?_⟩
      · rw [← Array.getElem?_toList, q]; rfl
      · cases hf with
        | head => exact ⟨m, t, hy⟩
        | tail _ hf => exact hi f hf
theorem kindS {d : Nat} {B : Int} {us : List Value} (hd : 1 ≤ d) (h2 : 2 ≤ us.length) (x : okTS s.heap d B us) (r : Value → Int) (hr : ∀ v ∈ us, ∀ ns, TS.TupInts s.heap v ns → r v = cS B ns) (Q : SortKind → Shared → Prop)
    (h : ∀ κ, TS.Cmp prog w A s κ (pairsOf us) r → Q κ s) : wpAny (model prog w) A (keyKind' us.toArray) Q E s := by
  obtain ⟨fs, k, hl, hi⟩ := headsS hd us x
  refine PySem.W.kat_kind (T := Value.type "int") k (by omega) (fun f hf => by obtain ⟨n, t, e⟩ := hi f hf; rw [e]; exact PySem.W.Looks.of_pure rfl) rfl (h _ fun p q hp hq Q' E' hQ => ?_)
  rw [pairsOf_toList] at hp hq
  obtain ⟨ns, tp, lp, bp⟩ := x _ (mem_zip_self hp).2
  obtain ⟨ms, tq, lq, bq⟩ := x _ (mem_zip_self hq).2
  rw [show decide (r p.1 < r q.1) = decide (cS B ns < cS B ms) by rw [hr _ (mem_zip_self hp).2 _ tp, hr _ (mem_zip_self hq).2 _ tq]] at hQ
  obtain ⟨a, xs, e1, ⟨o, ho, hc, n, hdt⟩, i⟩ := tp
  obtain ⟨a', ys, e2, ⟨o', ho', hc', n', hdt'⟩, i'⟩ := tq
  rw [e1, e2]
  have l1 := i.length
  have l2 := i'.length
  rw [Array.length_toList] at l1 l2
  refine PySem.W.kat_lt ho hdt ho' hdt' ?_
  rw [show decide (xs.size < ys.size) = false from decide_eq_false (by omega)]
  exact lexS 0 i i' (lp.trans lq.symm) bp bq hQ
/-- xs.sort() of such tuples -/
theorem sortS {a : Addr} {us : List Value} {n d : Nat} {B : Int} {Q : Value → Shared → Prop} (ho : s.heap.get? a = some (seqObj "list" us.toArray n)) (h64 : us.length < 64) (hd : 1 ≤ d) (x : okTS s.heap d B us)
    (h : ∀ out : Array Value, out.toList.Perm us → out.toList.Pairwise (fun u v => cS B (TS.intsOf s.heap u) ≤ cS B (TS.intsOf s.heap v)) → Q .none { s with heap := sortedHeap s.heap a us out }) :
    wpAny (model prog w) A (call (.builtin "list.sort") [.ref a]) Q E s := by
  have keep : ∀ b o, s.heap.get? b = some o → o.cls = .type "tuple" → (TS.midHeap s.heap a us).get? b = some o := fun b o e hc => TS.midHeap_old (fun z => by
    rw [z, ho] at e
    cases e
    have c2 : Value.type "list" = Value.type "tuple" := hc
    injection c2 with c3
    exact absurd c3 (by decide)) e
  refine wpAny_call_entry slot_list_sort ⟨_, ho, rfl⟩ entry_list_sort (SK.plain_sort (r := fun v => cS B (TS.intsOf s.heap v)) ho h64 (fun h2 Q' hQ => kindS (s := { s with heap := TS.midHeap s.heap a us }) hd h2 (x.keeps keep) _ (fun v hv ns t => ?_) Q' hQ) fun ps out h1 h2 h3 => ?_) (args_list_sort _)
  · obtain ⟨m0, t0, _⟩ := x v hv
    have e : ns = m0 := t.ints.symm.trans (t0.keeps keep).ints
    show cS B (TS.intsOf s.heap v) = cS B ns
    rw [e, t0.ints]
  · obtain ⟨pm, pw⟩ := TS.out_rank (r := fun v => cS B (TS.intsOf s.heap v)) h1 h2 h3
    exact ⟨_, rfl, h out pm pw⟩
/-- sorted(a set of such tuples) -/
theorem sorted_setS {P : Program} {a : Addr} {L : List (Addr × List Int)} {es : Array (Int × Value)} {ep : Nat} {t : SetTable} {Q : Value → Shared → Prop} (R : SetTR P w s.heap a L es ep t) (hh : A.handled = none) {d : Nat} {B : Int} (hd1 : 1 ≤ d) (hB : ∀ p ∈ L, p.2.length = d ∧ bS B p.2)
    (hQ : ∀ s' p (out : Array Value) (c : Nat) (M : List (Addr × List Int)), (∀ b o, s.heap.get? b = some o → s'.heap.get? b = some o) → s'.gens = s.gens → s'.os = s.os → s.heap.objs.size ≤ p → s'.heap.get? p = some (seqObj "list" out c) → out.toList = M.map (fun q => Value.ref q.1) →
      M.Perm L → M.Pairwise (fun q r => cS B q.2 ≤ cS B r.2) → Q (.ref p) s') : wpAny (model P w) A (call (.builtin "sorted") [.ref a]) Q E s := by
  obtain ⟨o, ho, hex, hdat⟩ := R.ob
  have few := R.few
  have rsz := R.size
  refine Calls.call_function_entry kind_sorted plain_sorted entry_sorted (args_sorted1 _) ?_
  show wpAny _ _ (Builtin.«sorted» _) _ _ _
  unfold Builtin.«sorted»
  refine wpAny_bind (m := checkCount "sorted" 1 1 _) (wpAny_pure (wpAny_bind (collect_set (A := A.in1) hh ⟨o, ho, hex.1, hdat⟩ R.fits (by show es.size < scanBound; unfold scanBound; omega) R.tab.ris R.led fun s1 us k1 hz g1 o1 pm0 => ?_)))
  have rows : es.toList.map (·.2) = L.map fun q => Value.ref q.1 := by rw [R.rows]; simp [rowsOf, List.map_map, Function.comp_def]
  have pm : us.Perm (L.map fun q => Value.ref q.1) := rows ▸ pm0
  have ulen : us.length < 64 := by rw [pm.length_eq, List.length_map]; exact few
  refine wpAny_bind (wpAny_newList ?_ (by show us.toArray.size ≤ _; rw [List.size_toArray, sizeLine_eq]; omega))
  have hoL : (s1.heap.push (seqObj "list" us.toArray 0)).get? s1.heap.objs.size = some (seqObj "list" us.toArray 0) := Heap.get?_push_size s1.heap rfl
  have tk : ∀ q ∈ L, TS.TupInts (s1.heap.push (seqObj "list" us.toArray 0)) (.ref q.1) q.2 := fun q hq => tupInts_of (P := P) (w := w) (isT_keep (R.tup q hq) fun b u e => Heap.get?_push_of_some _ (k1 b u e))
  have inL : ∀ v ∈ us, ∃ q ∈ L, Value.ref q.1 = v := fun v hv => List.mem_map.mp (pm.mem_iff.mp hv)
  refine wpAny_bind (wpAny_holding (sortS (s := { s1 with heap := s1.heap.push (seqObj "list" us.toArray 0) }) (B := B) hoL ulen hd1 (fun v hv => by
    obtain ⟨q, hq, e⟩ := inL v hv
    exact ⟨q.2, e ▸ tk q hq, hB q hq⟩) fun out a1 a2 => ?_))
  obtain ⟨c, hc⟩ := sortedHeap_at (vs := us) (out := out) hoL
  -- the rows behind the sorted values
  have back : ∀ vs : List Value, (∀ v ∈ vs, v ∈ us) → ∃ M : List (Addr × List Int), vs = M.map (fun q => Value.ref q.1) ∧ ∀ q ∈ M, q ∈ L := by
    intro vs
    induction vs with
    | nil => exact fun _ => ⟨[], rfl, fun q hq => nomatch hq⟩
    | cons v vs ih =>
      intro hv
      obtain ⟨q, hq, e⟩ := inL v (hv v List.mem_cons_self)
      obtain ⟨M, e1, hs⟩ := ih fun u hu => hv u (List.mem_cons_of_mem v hu)
      exact ⟨q :: M, by rw [List.map_cons, e, e1], fun r hr => by
        cases hr with
        | head => exact hq
        | tail _ hr => exact hs r hr⟩
  obtain ⟨M, eM, hM⟩ := back out.toList fun v hv => a1.mem_iff.mp hv
  have mem : ∀ q, q ∈ M ↔ q ∈ L := fun q => ⟨hM q, fun hq => by
    have h1 : Value.ref q.1 ∈ out.toList := a1.mem_iff.mpr (pm.mem_iff.mpr (List.mem_map.mpr ⟨q, hq, rfl⟩))
    rw [eM] at h1
    obtain ⟨r, hr, e⟩ := List.mem_map.mp h1
    injection e with e
    have e2 : r.2 = q.2 := (e ▸ R.tup r (hM r hr)).inj (R.tup q hq)
    rw [← show r = q from Prod.ext e e2]
    exact hr⟩
  have nL : L.Nodup := nodup_of_map R.nd
  have nref : (L.map fun q => Value.ref q.1).Nodup := List.pairwise_map.mpr (List.Pairwise.imp_of_mem (fun {q r} hq hr hne e => hne (by
    injection e with e
    exact Prod.ext e ((e ▸ R.tup q hq).inj (R.tup r hr)))) nL)
  have pML : M.Perm L := (List.perm_ext_iff_of_nodup (nodup_of_map (f := fun q : Addr × List Int => Value.ref q.1) (by rw [← eM]; exact (a1.trans pm).nodup_iff.mpr nref)) nL).mpr mem
  refine wpAny_pure ⟨_, rfl, hQ _ s1.heap.objs.size out c M (fun b u e => ?_) g1 o1 hz hc eM pML ?_⟩
  · have q := k1 b u e
    have hlt := Heap.lt_size q
    have h2 := sortedHeap_old (a := s1.heap.objs.size) (vs := us) (out := out) (h := s1.heap.push (seqObj "list" us.toArray 0)) (Nat.ne_of_lt hlt) (by rw [size_push']; exact Nat.lt_succ_of_lt hlt)
    exact h2.trans (Heap.get?_push_of_some _ q)
  · rw [eM, List.pairwise_map] at a2
    refine a2.imp_of_mem fun {q r} hq hr hle => ?_
    have f1 := (tk q (hM q hq)).ints
    have f2 := (tk r (hM r hr)).ints
    rw [f1, f2] at hle
    exact hle
end
def rSortedS (K : PySem.W.Frag) (P : Program) (w : World) : List V → Hp → VK → Prop := fun vs H Q => ∃ (a : Addr) (L : List (Addr × List Int)) (d : Nat) (B : Int), vs = [V.ref a] ∧ H a = some (SetTO P w a L) ∧ (∀ p ∈ L, SqT K H p.1 (p.2.map V.int)) ∧ 1 ≤ d ∧ (∀ p ∈ L, p.2.length = d ∧ bS B p.2) ∧
  ∀ (M : List (Addr × List Int)) (p : Addr), M.Perm L → (M.map (·.2)).Nodup → M.Pairwise (fun q r => cS B q.2 ≤ cS B r.2) → H p = none → Q (.ref p) (upd H p (.lst (M.map fun q => V.ref q.1)))
theorem cr_sortedS {X : Cx} (hc : X.calm = true) : CallR X (.builtin "sorted") (rSortedS X.K X.prog X.w) := by
  intro pins s σ H vs us Q I r h
  obtain ⟨a, L, d, B, rfl, ha, hk, hd, hB, q⟩ := h
  obtain ⟨es, ep, t, R⟩ := SetT0.full (I.hok a _ ha).1 fun p hp => I.isT (hk p hp)
  rw [Vals.ref1 r]
  refine sorted_setS R (I.ok.hd hc) hd hB fun s2 p out c M k g o hp hg hout pm pw => ?_
  have hM : M.length < 64 := by rw [pm.length_eq]; exact R.few
  have hv : Vals (M.map fun q => V.ref q.1) out.toList := by rw [hout]; exact vals_of_refs M
  have hn : H p = none := I.hok.fresh hp
  have J : Inv X pins σ (upd H p (.lst (M.map fun q => V.ref q.1))) { s with heap := s2.heap, gens := s2.gens, drawn := s2.drawn, toks := s2.toks } :=
    I.call (ch := []) (Un.laid k hp hn) (I.hok.laid k hp ⟨by rw [List.length_map, sizeLine_eq]; omega, out.toList, c, hv, hg⟩) (by rw [g]; exact I.bare) (fun _ z => nomatch z)
  obtain ⟨h2, g2, d2, t2, o2⟩ := s2
  obtain ⟨h1, g1, d1, t1, o1⟩ := s
  obtain rfl : o2 = o1 := o
  exact ⟨.ref p, _, J, rfl, q M p pm ((pm.map (·.2)).nodup_iff.mpr R.nd) pw hn⟩

/-! ### sorted(set(l)) by plain lists -/
section
variable {B : Int}
theorem ltL_iff : ∀ {a b : List Int}, a.length = b.length → bS B a → bS B b → (ltL a b = true ↔ cS B a < cS B b)
  | [], [], _, _, _ => by simp [ltL, cS]
  | [], _ :: _, h, _, _ => by simp at h
  | _ :: _, [], h, _, _ => by simp at h
  | x :: a, y :: b, h, h1, h2 => by
    have hl : a.length = b.length := Nat.succ.inj h
    simp only [ltL]
    by_cases e : x = y
    · subst e
      rw [if_neg (Int.lt_irrefl _), if_pos rfl, cS_same hl]
      exact ltL_iff hl (bS_tail h1) (bS_tail h2)
    · have n := cS_no hl (bS_tail h1) (bS_tail h2) e
      by_cases z : x < y
      · rw [if_pos z]
        exact ⟨fun _ => cS_lt hl (bS_tail h1) (bS_tail h2) z, fun _ => rfl⟩
      · rw [if_neg z, if_neg e]
        rw [decide_eq_false z] at n
        have n2 : ¬ cS B (x :: a) < cS B (y :: b) := of_decide_eq_false n
        constructor
        · intro w; cases w
        · intro w; exact absurd w n2
theorem cS_inj : ∀ {a b : List Int}, a.length = b.length → bS B a → bS B b → cS B a = cS B b → a = b
  | [], [], _, _, _, _ => rfl
  | [], _ :: _, h, _, _, _ => by simp at h
  | _ :: _, [], h, _, _, _ => by simp at h
  | x :: a, y :: b, h, h1, h2, e => by
    have hl : a.length = b.length := Nat.succ.inj h
    rcases Int.lt_trichotomy x y with z | z | z
    · have := cS_lt hl (bS_tail h1) (bS_tail h2) z; omega
    · subst z
      have n1 : ¬ cS B a < cS B b := fun w => by have := (cS_same (B := B) (d := x) hl).mpr w; omega
      have n2 : ¬ cS B b < cS B a := fun w => by have := (cS_same (B := B) (d := x) hl.symm).mpr w; omega
      rw [cS_inj hl (bS_tail h1) (bS_tail h2) (by omega)]
    · have := cS_lt hl.symm (bS_tail h2) (bS_tail h1) z; omega
theorem mem_insL {a x : List Int} : ∀ {l : List (List Int)}, x ∈ insL a l ↔ x = a ∨ x ∈ l
  | [] => by simp [insL]
  | b :: r => by
    simp only [insL]
    split
    · simp
    · split
      · rename_i e
        subst e
        simp
      · simp only [List.mem_cons, mem_insL (l := r)]
        constructor
        · rintro (h | h | h)
          · exact .inr (.inl h)
          · exact .inl h
          · exact .inr (.inr h)
        · rintro (h | h | h)
          · exact .inr (.inl h)
          · exact .inl h
          · exact .inr (.inr h)
theorem mem_ssort {x : List Int} : ∀ {l : List (List Int)}, x ∈ ssort l ↔ x ∈ l
  | [] => by simp [ssort]
  | a :: l => by
    show x ∈ insL a (ssort l) ↔ _
    rw [mem_insL, mem_ssort (l := l), List.mem_cons]
theorem insL_pw {d : Nat} {a : List Int} (ha : a.length = d ∧ bS B a) : ∀ {l : List (List Int)}, (∀ x ∈ l, x.length = d ∧ bS B x) → l.Pairwise (fun x y => cS B x < cS B y) → (insL a l).Pairwise (fun x y => cS B x < cS B y)
  | [], _, _ => by simp [insL]
  | b :: r, hl, pw => by
    obtain ⟨p1, p2⟩ := List.pairwise_cons.mp pw
    have hb := hl b List.mem_cons_self
    have iff := ltL_iff (ha.1.trans hb.1.symm) ha.2 hb.2
    simp only [insL]
    split
    · rename_i h
      have lt := iff.mp h
      refine List.pairwise_cons.mpr ⟨fun x hx => ?_, pw⟩
      rcases List.mem_cons.mp hx with z | z
      · rw [z]; exact lt
      · exact Int.lt_trans lt (p1 x z)
    · rename_i h
      split
      · exact pw
      · rename_i ne
        have nl : ¬ cS B a < cS B b := fun w => h (iff.mpr w)
        have ne2 : cS B a ≠ cS B b := fun w => ne (cS_inj (ha.1.trans hb.1.symm) ha.2 hb.2 w)
        refine List.pairwise_cons.mpr ⟨fun x hx => ?_, insL_pw ha (fun x hx => hl x (List.mem_cons_of_mem _ hx)) p2⟩
        rcases mem_insL.mp hx with z | z
        · rw [z]; omega
        · exact p1 x z
theorem ssort_pw {d : Nat} : ∀ {l : List (List Int)}, (∀ x ∈ l, x.length = d ∧ bS B x) → (ssort l).Pairwise (fun x y => cS B x < cS B y)
  | [], _ => .nil
  | a :: l, h => insL_pw (h a List.mem_cons_self) (fun x hx => h x (List.mem_cons_of_mem _ (mem_ssort.mp hx))) (ssort_pw fun x hx => h x (List.mem_cons_of_mem _ hx))
theorem pw_eq {α : Type} {r : α → Int} : ∀ {l l' : List α}, l.Pairwise (fun x y => r x < r y) → l'.Pairwise (fun x y => r x < r y) → (∀ x, x ∈ l ↔ x ∈ l') → l = l'
  | [], [], _, _, _ => rfl
  | [], y :: _, _, _, h => absurd ((h y).mpr List.mem_cons_self) (fun z => nomatch z)
  | x :: _, [], _, _, h => absurd ((h x).mp List.mem_cons_self) (fun z => nomatch z)
  | x :: l, y :: l', p, p', h => by
    obtain ⟨a1, a2⟩ := List.pairwise_cons.mp p
    obtain ⟨b1, b2⟩ := List.pairwise_cons.mp p'
    have e : x = y := by
      rcases List.mem_cons.mp ((h x).mp List.mem_cons_self) with z | z
      · exact z
      · rcases List.mem_cons.mp ((h y).mpr List.mem_cons_self) with w | w
        · exact w.symm
        · have := a1 y w; have := b1 x z; omega
    subst e
    rw [pw_eq a2 b2 fun z => ⟨fun hz => ?_, fun hz => ?_⟩]
    · rcases List.mem_cons.mp ((h z).mp (List.mem_cons_of_mem _ hz)) with w | w
      · subst w; have := a1 z hz; omega
      · exact w
    · rcases List.mem_cons.mp ((h z).mpr (List.mem_cons_of_mem _ hz)) with w | w
      · subst w; have := b1 z hz; omega
      · exact w
end
section
variable {K : PySem.W.Frag} {mg : Str → Option Value} {ι : List Addr} {H : Hp}
theorem reps_ints : ∀ (ns : List Int), Reps K mg ι H (ns.map PV.int) (ns.map V.int)
  | [] => .nil
  | n :: ns => .cons (.int n) (reps_ints ns)
theorem tupsOf_rep : ∀ {xs : List PV} {vs : List V} {l : List (List Int)}, Reps K mg ι H xs vs → tupsOf xs = some l → ∃ ks : List (Addr × List Int), vs = ks.map (fun p => V.ref p.1) ∧ ks.map (·.2) = l ∧ ∀ p ∈ ks, SqT K H p.1 (p.2.map V.int)
  | _, _, _, .nil, e => by
    simp only [tupsOf, Option.some.injEq] at e
    subst e
    exact ⟨[], rfl, rfl, fun p hp => nomatch hp⟩
  | _, _, l, .cons (xs := r) h hs, e => by
    cases h with
    | @tup a xs vs sq rs =>
      simp only [tupsOf] at e
      split at e
      · rename_i ns m e1 e2
        cases e
        obtain ⟨ks, k1, k2, k3⟩ := tupsOf_rep hs e2
        have ev := Reps.ints rs e1
        refine ⟨(a, ns) :: ks, by rw [k1]; rfl, by rw [List.map_cons, k2], fun p hp => ?_⟩
        rcases List.mem_cons.mp hp with z | z
        · rw [z, ← ev]; exact sq
        · exact k3 p z
      · cases e
    | _ => simp [tupsOf] at e
theorem sorted_reps : ∀ (M : List (Addr × List Int)), (∀ p ∈ M, SqT K H p.1 (p.2.map V.int)) → Reps K mg ι H ((M.map (·.2)).map fun ns => PV.tup (ns.map .int)) (M.map fun q => V.ref q.1)
  | [], _ => .nil
  | q :: M, h => .cons (.tup (h q List.mem_cons_self) (reps_ints q.2)) (sorted_reps M fun p hp => h p (List.mem_cons_of_mem _ hp))
theorem sqT_lay {a b : Addr} {o : HO} {vs : List V} (h : SqT K H a vs) (hb : H b = none) : SqT K (upd H b o) a vs := by
  rcases h with (h | ⟨u, h⟩) | h
  · exact .inl (.inl (by rw [upd_ne (ne_of_none h hb)]; exact h))
  · exact .inl (.inr ⟨u, by rw [upd_ne (ne_of_none h hb)]; exact h⟩)
  · exact .inr h
end
theorem bS_all {d : Nat} {l : List (List Int)} (h : allTups d l = true) : ∀ x ∈ l, x.length = d ∧ bS 1000000 x := fun x hx => by
  unfold allTups at h
  rw [List.all_eq_true] at h
  have := h x hx
  simp only [Bool.and_eq_true, decide_eq_true_eq, List.all_eq_true] at this
  refine ⟨this.1, fun m hm => ?_⟩
  obtain ⟨i, hi, rfl⟩ := List.mem_map.mp hm
  have := this.2 i hi
  constructor <;> omega
theorem sq_sset {X : Cx} {W : WX} {e : Expr} {mq : Env → Store → Res (Src × List PV)} {p1 p2 pos1 pos : Pos} (hc : X.calm = true) (hu : X.A.units + 64 < cLine) (g1 : Gl X "sorted") (m1 : X.mg "sorted" = none) (g2 : Gl X "set") (m2 : X.mg "set" = none) (ha : SQ X W e mq) (hs : isStar e = false) :
    SQ X W (.Call (.Name "sorted" p1) [.Call (.Name "set" p2) [e] [] pos1] [] pos) (fun env st => (mq env st).bind fun q st1 => sset q st1) := by
  have hin := pe_callTy (pos := pos1) (p := p2) (cr_setOfT hc hu) g2 m2 (show bootBuiltins "set" = some (.type "set") by decide +kernel) (pa_one ha hs) (by decide) (by decide) (starEach_cons hs)
  refine (pe_callB (cr_sortedS hc) g1 m1 (show bootBuiltins "sorted" = some (.builtin "sorted") by decide +kernel) (pa_one hin rfl) (by decide) (by decide) (starEach_cons rfl)).imp fun σ H Q h => ?_
  obtain ⟨ι, env, st, S, R, p⟩ := h
  refine ⟨ι, env, st, S, R, p.bind fun ι1 q st1 v H1 gr R1 rx p1 => ?_⟩
  unfold sset at p1
  split at p1
  · rename_i a l hL hT
    split at p1
    · rename_i hok
      obtain ⟨x1, x2, x3⟩ := hok
      obtain ⟨ad, vs, rfl, rs, hq⟩ := rx.lst hL
      obtain ⟨ks, k1, k2, k3⟩ := tupsOf_rep rs hT
      have hall := bS_all x3
      have klen : ks.length = (a :: l).length := by rw [← k2, List.length_map]
      refine ⟨ad, ks, rfl, k1 ▸ hq, k3, by omega, fun b L hb hL1 hL2 => ?_⟩
      have inL : ∀ p ∈ L, p.2.length = a.length ∧ bS 1000000 p.2 := fun p hp => hall p.2 (by rw [← k2]; exact List.mem_map.mpr ⟨p, hL1 p hp, rfl⟩)
      refine ⟨b, L, a.length, 1000000, rfl, upd_same, fun p hp => sqT_lay (k3 p (hL1 p hp)) hb, x1, inL, fun M t pm nd pw ht => ?_⟩
      have hM : ∀ p ∈ M, p ∈ L := fun p hp => pm.mem_iff.mp hp
      have e : M.map (·.2) = ssort (a :: l) := by
        refine pw_eq (r := cS 1000000) ?_ (ssort_pw hall) fun z => ?_
        · rw [List.pairwise_map]
          have nd' : M.Pairwise fun x y => x.2 ≠ y.2 := by
            unfold List.Nodup at nd
            rw [List.pairwise_map] at nd
            exact nd
          refine List.Pairwise.imp_of_mem (fun {x y} hx hy hxy => ?_) (pw.and nd')
          have hx' := inL x (hM x hx)
          have hy' := inL y (hM y hy)
          have : cS 1000000 x.2 ≠ cS 1000000 y.2 := fun w => hxy.2 (cS_inj (hx'.1.trans hy'.1.symm) hx'.2 hy'.2 w)
          have := hxy.1
          omega
        · rw [mem_ssort]
          constructor
          · intro hz
            obtain ⟨p, hp, rfl⟩ := List.mem_map.mp hz
            rw [← k2]
            exact List.mem_map.mpr ⟨p, hL1 p (hM p hp), rfl⟩
          · intro hz
            rw [← k2] at hz
            obtain ⟨p, hp, rfl⟩ := List.mem_map.mp hz
            obtain ⟨r, hr, e⟩ := List.mem_map.mp (hL2 p hp)
            exact List.mem_map.mpr ⟨r, pm.mem_iff.mpr hr, e⟩
      have ga : Grow ι1 H1 ι1 (upd H1 b (SetTO X.prog X.w b L)) := Grow.lay hb
      have Ra := R1.lay (o := SetTO X.prog X.w b L) hb
      refine p1 (.ref t) ι1 _ (ga.trans (Grow.lay ht)) (Ra.lay ht) ⟨t, _, rfl, ?_, upd_same, Ra.fresh ht, Ra.back ga ht⟩
      show Reps _ _ _ _ ((ssort (a :: l)).map fun ns => PV.tup (ns.map .int)) _
      rw [← e]
      exact sorted_reps M fun p hp => sqT_lay (sqT_lay (k3 p (hL1 p (hM p hp))) hb) ht
    · exact p1.elim
  · exact p1.elim
end Ev

namespace Ev
open PySem PySem.Spec L2

def isSlice : Expr → Bool
  | .Slice _ _ _ _ => true
  | _ => false
theorem plainIx_of {b : Expr} (h : isSlice b = false) : PlainIx b := fun o i => by
  cases b <;> first | rfl | cases h
theorem atP_get : ∀ (xs : List PV) (i : Nat), atP xs i = xs[i]?
  | [], _ => rfl
  | _ :: _, 0 => rfl
  | _ :: r, i + 1 => by simpa [atP] using atP_get r i
section
variable {X : Cx} {W : WX} {a b c : Expr} {ma mb mc : Env → Store → Res PV} {pos : Pos}
theorem IxR.imp {r r' : R2} (h : IxR X r) (i : ∀ x y H Q, r' x y H Q → r x y H Q) : IxR X r' := fun value slice pins s σ H x y v u Q I rx ry q hs => h value slice pins s σ H x y v u Q I rx ry (i x y H Q q) hs
theorem ix_ev (hu : X.A.units + 1 < cLine) : IxR X (rOp X.K X.mg W evSub) := by
  refine IxR.imp (IxR.or (ix_dict hu) (IxR.or ix_list ix_tup)) fun x y H Q h => ?_
  obtain ⟨σ, ι, px, py, st, R, rx, ry, p⟩ := h
  unfold evSub at p
  split at p
  · rename_i i
    cases ry
    cases ei : items px st with
    | none => rw [ei] at p; exact .inl (sub_dict (k := .inl i) R rx p)
    | some q =>
      rw [ei] at p
      refine .inr ?_
      obtain ⟨src, xs⟩ := q
      simp only at p
      cases ek : ixN xs.length i with
      | none => rw [ek] at p; exact p.elim
      | some k =>
        rw [ek] at p
        simp only at p
        cases ea : atP xs k with
        | none => rw [ea] at p; exact p.elim
        | some w =>
          rw [ea] at p
          obtain ⟨a, vs, rfl, rs, hq⟩ := (items_rep (H0 := H) R rx ei).sq
          obtain ⟨v, hv, rv⟩ := rs.get ea
          have hat : atI vs i = some v := by
            unfold atI
            rw [← rs.length, ek]
            exact hv
          rcases hq with hq | hq
          · exact .inl ⟨a, vs, i, v, rfl, rfl, hq, hat, p.here R rv⟩
          · exact .inr ⟨a, vs, i, v, rfl, rfl, hq, hat, p.here R rv⟩
  · rename_i z
    cases ry
    exact .inl (sub_dict (k := .inr z) R rx p)
  · exact p.elim
theorem se_sub (hu : X.A.units + 1 < cLine) (ha : SE X W a ma) (hb : SE X W b mb) (hs : isSlice b = false) : SE X W (.Subscript a b pos) (fun env st => (ma env st).bind fun x st1 => (mb env st1).bind fun y st2 => evSub x y st2) :=
  (pe_ix (ix_ev hu) ha hb (plainIx_of hs)).imp fun _ _ _ h => rd_two h

/-! ### slices -/
def SO (X : Cx) (W : WX) (e : Option Expr) (m : Env → Store → Res (Option Int)) : Prop := PO X e (fun σ H Q => Rd (kO (K := X.K) (mg := X.mg)) W m σ H Q)
theorem _root_.L2.PO.imp {X : Cx} {e : Option Expr} {t t' : TO} (h : PO X e t) (i : ∀ σ H Q, t' σ H Q → t σ H Q) : PO X e t' := ⟨fun pins s σ H Q I q => h.run pins s σ H Q I (i σ H Q q)⟩
theorem so_none : SO X W none (fun _ st => .ok none st) := by
  refine po_none.imp fun σ H Q h => ?_
  obtain ⟨ι, env, st, S, R, p⟩ := h
  exact p.here R rfl
theorem so_some (ha : SE X W a ma) : SO X W (some a) (fun env st => (ma env st).bind fun x st1 => match x with
    | .int i => .ok (some i) st1
    | _ => .stuck) := by
  refine (po_some ha).imp fun σ H Q h => ?_
  obtain ⟨ι, env, st, S, R, p⟩ := h
  refine ⟨ι, env, st, S, R, p.bind fun ι1 px st1 x H1 g1 R1 rx p1 => ?_⟩
  split at p1
  · cases rx
    exact ⟨_, rfl, p1.here R1 rfl⟩
  · exact p1.elim
theorem cutL_rep {K : PySem.W.Frag} {mg : Str → Option Value} {ι : List Addr} {H : Hp} {xs : List PV} {vs : List V} (h : Reps K mg ι H xs vs) (lo hi : Option Int) : Reps K mg ι H (cutL xs lo hi) (cutV vs lo hi) := by
  unfold cutL cutV
  rw [h.length]
  exact (h.drop _).take _
theorem cutV_whole {vs : List V} {lo hi : Option Int} (h : HT.sIx vs.length 0 lo = 0 ∧ HT.sIx vs.length vs.length hi = vs.length) : cutV vs lo hi = vs := by
  unfold cutV
  rw [h.1, h.2]
  simp
/-- two parts ahead of a value's slice -/
theorem rd_slc {ml mh : Env → Store → Res (Option Int)} {g : PV → Option Int → Option Int → Store → Res PV} {σ : St} {H : Hp} {Q : VK} {r : V → Option Int → Option Int → Hp → VK → Prop}
    (hr : ∀ ι px x l u H st, Rel X.K X.mg ι H st → Rep X.K X.mg ι H px x → Post (kE (K := X.K) (mg := X.mg)) W σ ι H Q (g px l u st) → r x l u H Q)
    (h : Rd (kE (K := X.K) (mg := X.mg)) W (fun env st => (ma env st).bind fun x st1 => (ml env st1).bind fun l st2 => (mh env st2).bind fun h st3 => g x l h st3) σ H Q) :
    Rd (kE (K := X.K) (mg := X.mg)) W ma σ H fun x H1 => Rd (kO (K := X.K) (mg := X.mg)) W ml σ H1 fun l H2 => Rd (kO (K := X.K) (mg := X.mg)) W mh σ H2 fun u H3 => r x l u H3 Q := by
  obtain ⟨ι, env, st, S, R, p⟩ := h
  refine ⟨ι, env, st, S, R, p.bind fun ι1 px st1 x H1 g1 R1 rx p1 => ?_⟩
  refine ⟨ι1, env, st1, S.grow R g1, R1, p1.bind fun ι2 l st2 l' H2 g2 R2 el p2 => ?_⟩
  have el' : l = l' := el
  subst el'
  refine ⟨ι2, env, st2, (S.grow R g1).grow R1 g2, R2, p2.bind fun ι3 u st3 u' H3 g3 R3 eu p3 => ?_⟩
  have eu' : u = u' := eu
  subst eu'
  exact hr ι3 px x l u H3 st3 R3 (Rep.grow R2 g3 (Rep.grow R1 g2 rx)) p3
theorem se_slc {lo hi : Option Expr} {ml mh : Env → Store → Res (Option Int)} {p2 : Pos} (ha : SE X W a ma) (hl : SO X W lo ml) (hh : SO X W hi mh) : SE X W (.Subscript a (.Slice lo hi none p2) pos) (fun env st => (ma env st).bind fun x st1 => (ml env st1).bind fun l st2 => (mh env st2).bind fun h st3 => evSlc x l h st3) := by
  refine (pe_slice (SlR.or sl_list sl_tupA) ha hl hh).imp fun σ H Q h => ?_
  refine rd_slc (r := fun x lo hi H Q => rSlL X.K x lo hi H Q ∨ rSlA X.K x lo hi H Q) (fun ι px x l u H st R rx p => ?_) h
  unfold evSlc at p
  cases ei : items px st with
  | none => rw [ei] at p; exact p.elim
  | some q =>
    rw [ei] at p
    obtain ⟨src, xs⟩ := q
    have lr := items_rep (H0 := H) R rx ei
    cases src with
    | tup =>
      obtain ⟨a, vs, rfl, rs, hq⟩ := lr
      simp only at p rs hq
      refine .inr ⟨a, vs, rfl, hq, fun hw => ?_, fun _ q hq => post_tup p R (cutL_rep rs l u) hq⟩
      refine p.here R (.tup hq ?_)
      have := cutL_rep rs l u
      rw [cutV_whole hw] at this
      exact this
    | tmp =>
      obtain ⟨a, vs, rfl, rs, hq⟩ := lr.lst rfl
      exact .inl ⟨a, vs, rfl, hq, fun q hq => post_alloc p R (cutL_rep rs l u) hq⟩
    | obj n =>
      obtain ⟨a, vs, rfl, rs, hq⟩ := lr.lst rfl
      exact .inl ⟨a, vs, rfl, hq, fun q hq => post_alloc p R (cutL_rep rs l u) hq⟩
    | rol =>
      obtain ⟨a, vs, rfl, rs, hq⟩ := lr.lst rfl
      exact .inl ⟨a, vs, rfl, hq, fun q hq => post_alloc p R (cutL_rep rs l u) hq⟩

/-! ### xs.append(e) -/
def isCall : Expr → Bool
  | .Call _ _ _ _ => true
  | _ => false
theorem base_of {o : Expr} {x : Str} {env : PySem.Env} {w : Sem Value} (h : isCall o = false) : attributeBase o x env w = w := by
  cases o <;> first | rfl | cases h
theorem lstP_ty {K : PySem.W.Frag} {mg : Str → Option Value} {ι : List Addr} {H : Hp} {st : Store} (R : Rel K mg ι H st) {x : PV} {v : V} (r : Rep K mg ι H x v) (e : lstP x st = true) : tyV K "list" v H := by
  cases r with
  | @obj n a hn =>
    obtain ⟨o, ho, hr⟩ := R.obj n a hn
    simp only [lstP, ho] at e
    cases o with
    | lst xs =>
      obtain ⟨vs, h1, r1⟩ := hr
      exact .inl ⟨rfl, vs, SqL.of h1⟩
    | dct kvs => cases e
  | _ => simp [lstP] at e
theorem se_append {apos cpos : Pos} (ha : SE X W a ma) (hb : SE X W b mb) (hc : isCall a = false) (hs : isStar b = false) (hl : (apos.endLine == cpos.line) = true) :
    SE X W (.Call (.Attribute a "append" apos) [b] [] cpos) (fun env st => (ma env st).bind fun x st1 => match lstP x st1 with
      | true => (mb env st1).bind fun y st2 => evApp x y st2
      | false => .stuck) := by
  refine (pe_bm PySem.F.plainAttrs_list PySem.F.slot_list_append PySem.F.type_list_append mt_append ha (pa_one hb hs) (base_of hc) (by rw [starEach_cons hs]; rfl) hl (starEach_cons hs) rfl).imp fun σ H Q h => ?_
  obtain ⟨ι, env, st, S, R, p⟩ := h
  refine ⟨ι, env, st, S, R, p.bind fun ι1 px st1 x H1 g1 R1 rx p1 => ?_⟩
  cases el : lstP px st1 with
  | false => rw [el] at p1; exact p1.elim
  | true =>
    rw [el] at p1
    refine ⟨lstP_ty R1 rx el, ι1, env, st1, S.grow R g1, R1, p1.bind fun ι2 py st2 y H2 g2 R2 ry p2 => ?_⟩
    have rx2 := Rep.grow R1 g2 rx
    unfold evApp at p2
    split at p2
    · rename_i n
      split at p2
      · rename_i xs hn
        split at p2
        · rename_i hz
          cases rx2 with
          | obj e =>
            obtain ⟨vs, h1, r1⟩ := R2.lst e hn
            obtain ⟨R3, g3⟩ := R2.put e (Reps.append r1 (.cons ry .nil))
            exact ⟨_, vs, y, rfl, rfl, h1, by rw [← r1.length]; exact hz, p2 _ _ _ g3 R3 .non⟩
        · exact p2.elim
      · exact p2.elim
    · exact p2.elim
theorem firstD_ok {d : PyData} : ∀ {ds : List PyData} {j k : Nat}, firstD d ds j = some k → ∃ i z, k = j + i ∧ ds[i]? = some z ∧ PyData.eqv z d = true ∧ ∀ (m : Nat) (z' : PyData), m < i → ds[m]? = some z' → PyData.eqv z' d = false
  | [], _, _, h => by cases h
  | z :: r, j, k, h => by
    unfold firstD at h
    split at h
    · rename_i hz
      cases h
      exact ⟨0, z, rfl, rfl, hz, fun m z' hm => absurd hm (Nat.not_lt_zero _)⟩
    · rename_i hz
      obtain ⟨i, y, e, h1, h2, h3⟩ := firstD_ok h
      refine ⟨i + 1, y, by omega, h1, h2, fun m z' hm e' => ?_⟩
      cases m with
      | zero =>
        cases e'
        simpa using hz
      | succ m => exact h3 m z' (by omega) e'
/-- xs.index(e) -/
theorem se_index {apos cpos : Pos} (hu : X.A.units + 65 < cLine) (ha : SE X W a ma) (hb : SE X W b mb) (hc : isCall a = false) (hs : isStar b = false) (hl : (apos.endLine == cpos.line) = true) :
    SE X W (.Call (.Attribute a "index" apos) [b] [] cpos) (fun env st => (ma env st).bind fun x st1 => match lstP x st1 with
      | true => (mb env st1).bind fun y st2 => evIdx x y st2
      | false => .stuck) := by
  refine (pe_bm PySem.F.plainAttrs_list PySem.F.slot_list_index PySem.F.type_list_index (mt_indexD hu) ha (pa_one hb hs) (base_of hc) (by rw [starEach_cons hs]; rfl) hl (starEach_cons hs) rfl).imp fun σ H Q h => ?_
  obtain ⟨ι, env, st, S, R, p⟩ := h
  refine ⟨ι, env, st, S, R, p.bind fun ι1 px st1 x H1 g1 R1 rx p1 => ?_⟩
  cases el : lstP px st1 with
  | false => rw [el] at p1; exact p1.elim
  | true =>
    rw [el] at p1
    refine ⟨lstP_ty R1 rx el, ι1, env, st1, S.grow R g1, R1, p1.bind fun ι2 py st2 y H2 g2 R2 ry p2 => ?_⟩
    have rx2 := Rep.grow R1 g2 rx
    unfold evIdx at p2
    split at p2
    · rename_i n
      split at p2
      · rename_i xs hn
        split at p2
        · rename_i d ds hd hds
          split at p2
          · rename_i j hj
            obtain ⟨i, z, e1, h1, h2, h3⟩ := firstD_ok hj
            obtain ⟨b1, b2, b3⟩ := toD_ok R2 59 py y d ry hd
            obtain ⟨a1, a2, a3⟩ := toD_ok R2 60 (.obj n) x (.list ds) rx2 (by simp only [toD, hn, hds])
            cases rx2 with
            | obj e =>
              have e2 : j = i := by omega
              subst e2
              exact ⟨_, y, d, ds, j, z, rfl, rfl, a1, b1, shaped_of a2 a3 (by decide), shaped_of b2 b3 (by decide), h1, h2, h3, p2.here R2 (.int _)⟩
          · exact p2.elim
        · exact p2.elim
      · exact p2.elim
    · exact p2.elim
/-- e is True, e is not False -/
theorem se_isb {k : Bool} {j : Nat} {pos' : Pos} (ha : SE X W a ma) : SE X W (.Compare a [.Is] [.Constant (.bool k) j pos'] pos) (fun env st => (ma env st).bind fun x st1 => match x with
    | .bl b => .ok (.bl (xor false (b == k))) st1
    | _ => .stuck) := by
  refine (pe_cmpR op_is_bl ha pe_bl rfl).imp fun σ H Q h => ?_
  obtain ⟨ι, env, st, S, R, p⟩ := h
  refine ⟨ι, env, st, S, R, p.bind fun ι1 px st1 x H1 g1 R1 rx p1 => ?_⟩
  split at p1
  · rename_i b
    cases rx
    refine ⟨b, k, rfl, rfl, ?_⟩
    have e : decide (b = k) = xor false (b == k) := by cases b <;> cases k <;> rfl
    rw [e]
    exact p1.here R1 (.bl _)
  · exact p1.elim
theorem se_isb' {k : Bool} {j : Nat} {pos' : Pos} (ha : SE X W a ma) : SE X W (.Compare a [.IsNot] [.Constant (.bool k) j pos'] pos) (fun env st => (ma env st).bind fun x st1 => match x with
    | .bl b => .ok (.bl (xor true (b == k))) st1
    | _ => .stuck) := by
  refine (pe_cmpR op_isnot_bl ha pe_bl rfl).imp fun σ H Q h => ?_
  obtain ⟨ι, env, st, S, R, p⟩ := h
  refine ⟨ι, env, st, S, R, p.bind fun ι1 px st1 x H1 g1 R1 rx p1 => ?_⟩
  split at p1
  · rename_i b
    cases rx
    refine ⟨b, k, rfl, rfl, ?_⟩
    have e : (!decide (b = k)) = xor true (b == k) := by cases b <;> cases k <;> rfl
    rw [e]
    exact p1.here R1 (.bl _)
  · exact p1.elim

section
open PySem PySem.Spec
theorem join_le : ∀ ts : List Str, (Str.join ", " ts).length ≤ (ts.map fun t => t.length + 2).sum
  | [] => Nat.le_refl _
  | [x] => by show x.length ≤ _; simp
  | x :: y :: r => by
    have ih := join_le (y :: r)
    have e2 : ((", " : String) : Str).length = 2 := rfl
    have e : (Str.join ", " (x :: y :: r)).length = x.length + 2 + (Str.join ", " (y :: r)).length := by
      show (x ++ ", " ++ Str.join ", " (y :: r)).length = _
      rw [strLen_append, strLen_append, e2]
    rw [e]
    simp only [List.map_cons, List.sum_cons] at ih ⊢
    omega
theorem text_le : ∀ (ts : List Str) (k : Nat) (acc : Str), (textFrom k acc ts).length ≤ acc.length + (ts.map fun t => t.length + 2).sum
  | [], k, acc => by simp [textFrom]
  | t :: r, k, acc => by
    have ih := text_le r (k + 1) (acc ++ (if k > 0 then ", " else "" : String) ++ t)
    have e : (acc ++ (if k > 0 then ", " else "" : String) ++ t).length = acc.length + (if k > 0 then 2 else 0) + t.length := by
      rw [strLen_append, strLen_append]
      by_cases h : k > 0
      · rw [if_pos h, if_pos h]; rfl
      · rw [if_neg h, if_neg h]; rfl
    have e3 : (textFrom k acc (t :: r)).length = (textFrom (k + 1) (acc ++ (if k > 0 then ", " else "" : String) ++ t) r).length := rfl
    rw [e3]
    rw [e] at ih
    simp only [List.map_cons, List.sum_cons]
    have : (if k > 0 then 2 else 0 : Nat) ≤ 2 := by split <;> omega
    omega
mutual
theorem szD_le : ∀ d : PyData, d.showable = true → d.shown.length ≤ szD d
  | .none, _ => by simp only [PyData.shown, szD]; decide
  | .bool b, _ => by cases b <;> simp only [PyData.shown, szD] <;> decide
  | .int i, h => by
    simp only [PyData.showable, decide_eq_true_eq] at h
    simp only [PyData.shown, szD]
    exact PyProof.Rows.int_text_len_1921 h
  | .str x, _ => by simp only [PyData.shown, szD]; exact Nat.le_refl _
  | .list xs, h => by
    simp only [PyData.showable] at h
    have := szAll_le xs h
    simp only [PyData.shown, szD]
    unfold listText
    rw [strLen_append]
    have e1 : (("[" : String) : Str).length = 1 := rfl
    have e2 : (("]" : String) : Str).length = 1 := rfl
    have := text_le (PyData.shownAll xs) 0 "["
    omega
  | .tuple xs, h => by
    simp only [PyData.showable] at h
    have := szAll_le xs h
    simp only [PyData.shown, szD]
    unfold tupleText
    rw [strLen_append, strLen_append]
    have e1 : (("(" : String) : Str).length = 1 := rfl
    have e2 : ((if (PyData.shownAll xs).length == 1 then ",)" else ")" : String) : Str).length ≤ 2 := by split <;> decide
    have := join_le (PyData.shownAll xs)
    omega
  | .dict kvs, _ => by simp only [szD]; exact Nat.le_refl _
theorem szAll_le : ∀ xs : List PyData, PyData.showableAll xs = true → ((PyData.shownAll xs).map fun t => t.length + 2).sum ≤ szAll xs
  | [], _ => by simp [PyData.shownAll, szAll]
  | x :: xs, h => by
    simp only [PyData.showableAll, Bool.and_eq_true] at h
    have h1 := szD_le x h.1
    have h2 := szAll_le xs h.2
    simp only [PyData.shownAll, szAll, List.map_cons, List.sum_cons]
    omega
end
end
/-! ### repr -/
/-- a text that repr makes of data -/
def kD {K : PySem.W.Frag} {mg : Str → Option Value} : Kd K mg PyData V := ⟨fun _ _ _ _ d v => v = .str d.shown, fun _ _ h => h⟩
def rRepr (K : PySem.W.Frag) : List V → Hp → VK → Prop := fun vs H Q => ∃ v d, vs = [v] ∧ Dp K H v d ∧ d.canLay0 = true ∧ d.depth ≤ 60 ∧ d.showable = true ∧ d.shown.length ≤ sizeLine ∧ Q (.str d.shown) H
theorem cr_repr (hg : X.A.guards = some []) (hu : X.A.units + 64 < cLine) : CallR X (.builtin "repr") (rRepr X.K) := by
  intro pins s σ H xs us Q I r h
  obtain ⟨v, d, rfl, hd, hc, hdp, hs, hz, q⟩ := h
  obtain ⟨u, rfl, ru⟩ := vals1 r
  obtain ⟨as, rd⟩ := Dp.reads I d v u hd ru
  have fin : ∀ h' u' tk, (∀ b o, s.heap.get? b = some o → h'.get? b = some o) → EP X pins σ Q (.str d.shown u') { s with heap := h', toks := tk } := fun h' u' tk hk => ⟨.str d.shown, H, I.kept hk, ⟨u', rfl⟩, q⟩
  cases hd with
  | non =>
    cases ru
    simp only [PyData.shown] at q
    exact PySem.P.repr_of_none ⟨.str _, H, I.tok _, ⟨_, rfl⟩, q⟩
  | bl b =>
    cases ru
    simp only [PyData.shown] at q
    exact PySem.P.repr_of_bool ⟨.str _, H, I.tok _, ⟨_, rfl⟩, q⟩
  | int i =>
    obtain ⟨t, rfl⟩ := ru
    have hs' : i.natAbs.log2 < 1920 := by simpa [PyData.showable] using hs
    simp only [PyData.shown] at q
    exact PySem.P.repr_of_int hs' ⟨.str _, H, I.tok _, ⟨_, rfl⟩, q⟩
  | str x =>
    obtain ⟨t, rfl⟩ := ru
    simp only [PyData.shown] at q hz
    exact PySem.P.repr_of_str ⟨.str _, H, I.tok _, ⟨_, rfl⟩, q⟩ hz
  | lst h1 h2 =>
    cases ru
    exact repr_of_reads' rd hs (PyData.noDict_hsm (PyData.hasDict_of_canLay _ hc)) hg (by omega) (fun _ _ e => e) fin hz
  | tup h1 h2 =>
    cases ru
    exact repr_of_reads' rd hs (PyData.noDict_hsm (PyData.hasDict_of_canLay _ hc)) hg (by omega) (fun _ _ e => e) fin hz
theorem pe_repr {p : Pos} (hg : X.A.guards = some []) (hu : X.A.units + 64 < cLine) (hG : Gl X "repr") (hm : X.mg "repr" = none) (ha : SE X W a ma) (hs : isStar a = false) :
    PE X (.Call (.Name "repr" p) [a] [] pos) (fun σ H Q => Rd (kD (K := X.K) (mg := X.mg)) W (fun env st => (ma env st).bind shownD) σ H Q) := by
  refine (pe_callB (cr_repr hg hu) hG hm PyProof.Rows.boot_repr (pa_one ha hs) (by decide) (by decide) (starEach_cons hs)).imp fun σ H Q h => ?_
  obtain ⟨ι, env, st, S, R, p⟩ := h
  refine ⟨ι, env, st, S, R, p.bind fun ι1 px st1 x H1 g1 R1 rx p1 => ?_⟩
  unfold shownD at p1
  cases e : toD st1 60 px with
  | none => rw [e] at p1; exact p1.elim
  | some d =>
    rw [e] at p1
    simp only at p1
    split at p1
    · rename_i hz
      simp only [Bool.and_eq_true, decide_eq_true_eq] at hz
      obtain ⟨a1, a2, a3⟩ := toD_ok R1 60 px x d rx e
      exact ⟨x, d, rfl, a1, a2, a3, hz.1, Nat.le_trans (szD_le d hz.1) hz.2, p1.here R1 rfl⟩
    · exact p1.elim
theorem se_shw {p : Pos} (hg : X.A.guards = some []) (hu : X.A.units + 64 < cLine) (hG : Gl X "repr") (hm : X.mg "repr" = none) (ha : SE X W a ma) (hs : isStar a = false) :
    SE X W (.Call (.Name "repr" p) [a] [] pos) (fun env st => ((ma env st).bind shownD).bind fun d st1 => .ok (.shw d) st1) := by
  refine (pe_repr hg hu hG hm ha hs).imp fun σ H Q h => ?_
  obtain ⟨ι, env, st, S, R, p⟩ := h
  refine ⟨ι, env, st, S, R, p.bind fun ι1 d st1 x H1 g1 R1 rx p1 => ?_⟩
  obtain rfl : x = .str d.shown := rx
  exact p1.here R1 (.shw d)
theorem se_rpr {p1 p2 p3 p4 : Pos} (hg : X.A.guards = some []) (hu : X.A.units + 64 < cLine) (hG : Gl X "repr") (hm : X.mg "repr" = none) (ha : SE X W a ma) (hb : SE X W b mb) (hs : isStar a = false) (hs' : isStar b = false) :
    SE X W (.Compare (.Call (.Name "repr" p1) [a] [] p2) [.Eq] [.Call (.Name "repr" p3) [b] [] p4] pos) (fun env st => ((ma env st).bind shownD).bind fun d st1 => ((mb env st1).bind shownD).bind fun e st2 => rprEnd false d e st2) := by
  refine (pe_cmpR op_eq (pe_repr hg hu hG hm ha hs) (pe_repr hg hu hG hm hb hs') rfl).imp fun σ H Q h => ?_
  obtain ⟨ι, env, st, S, R, p⟩ := h
  refine ⟨ι, env, st, S, R, p.bind fun ι1 d st1 x H1 g1 R1 rx p1 => ?_⟩
  refine ⟨ι1, env, st1, S.grow R g1, R1, p1.bind fun ι2 e st2 y H2 g2 R2 ry p2 => ?_⟩
  obtain rfl : x = .str d.shown := rx
  obtain rfl : y = .str e.shown := ry
  unfold rprEnd at p2
  split at p2
  · rename_i hsm
    rw [sameD_eq hsm]
    refine ⟨rfl, ?_⟩
    rw [decide_eq_true rfl]
    exact p2.here R2 (.bl _)
  · exact p2.elim
theorem se_rpr' {p1 p2 p3 p4 : Pos} (hg : X.A.guards = some []) (hu : X.A.units + 64 < cLine) (hG : Gl X "repr") (hm : X.mg "repr" = none) (ha : SE X W a ma) (hb : SE X W b mb) (hs : isStar a = false) (hs' : isStar b = false) :
    SE X W (.Compare (.Call (.Name "repr" p1) [a] [] p2) [.NotEq] [.Call (.Name "repr" p3) [b] [] p4] pos) (fun env st => ((ma env st).bind shownD).bind fun d st1 => ((mb env st1).bind shownD).bind fun e st2 => rprEnd true d e st2) := by
  refine (pe_cmpR op_ne (pe_repr hg hu hG hm ha hs) (pe_repr hg hu hG hm hb hs') rfl).imp fun σ H Q h => ?_
  obtain ⟨ι, env, st, S, R, p⟩ := h
  refine ⟨ι, env, st, S, R, p.bind fun ι1 d st1 x H1 g1 R1 rx p1 => ?_⟩
  refine ⟨ι1, env, st1, S.grow R g1, R1, p1.bind fun ι2 e st2 y H2 g2 R2 ry p2 => ?_⟩
  obtain rfl : x = .str d.shown := rx
  obtain rfl : y = .str e.shown := ry
  unfold rprEnd at p2
  split at p2
  · rename_i hsm
    rw [sameD_eq hsm]
    refine ⟨rfl, ?_⟩
    rw [decide_eq_true rfl]
    exact p2.here R2 (.bl _)
  · exact p2.elim
end
end Ev

namespace Ev
open PySem PySem.Spec L2 PyProof.Rows
section
variable {prog : Program} {w : World} {A : Around} {E : Value → Shared → Prop} {s : Shared}
/-- a slice object with a step, applied to a length -/
theorem applied_step {sa : Addr} {v1 v2 v3 : Value} {lo hi : Option Int} {c : Int} {n : Nat} {Q : Int × Int × Nat → Shared → Prop} (hs : s.heap.IsSliceOf sa v1 v2 v3) (p1 : IsPart v1 lo) (p2 : IsPart v2 hi) (p3 : IsPart v3 (some c)) (hc : c ≠ 0)
    (q : Q ((Builtin.Slice.sliceAdjust lo hi c (n : Int)).1, c, Builtin.Slice.slicePlaces (Builtin.Slice.sliceAdjust lo hi c (n : Int)).1 (Builtin.Slice.sliceAdjust lo hi c (n : Int)).2 c) s) :
    wpAny (model prog w) A (Builtin.Slice.sliceApplied (.ref sa) (pure (n : Int))) Q E s := by
  obtain ⟨ob, g1, g2, g3⟩ := id hs
  unfold Builtin.Slice.sliceApplied Builtin.Slice.sliceFields
  refine wpAny_bind (wpAny_bind (wpAny_field g1 g3 (x := v1) rfl ?_))
  refine wpAny_bind (wpAny_field g1 g3 (x := v2) rfl ?_)
  refine wpAny_bind (wpAny_field g1 g3 (x := v3) rfl (wpAny_pure ?_))
  refine wpAny_bind (HT.slicePart_ p3 ?_)
  have h0 : ¬ ((((some c : Option Int).getD 1) == (0 : Int)) = true) := by
    intro z
    exact hc (by simpa using z)
  rw [if_neg h0]
  refine wpAny_bind (HT.slicePart_ p1 ?_)
  refine wpAny_bind (HT.slicePart_ p2 (wpAny_bind (wpAny_pure ?_)))
  exact wpAny_pure q
theorem tuple_step {t sa : Addr} {its : Array Value} {v1 v2 v3 : Value} {lo hi : Option Int} {c : Int} {Q : Value → Shared → Prop} (ht : IsTup s.heap t its) (hs : s.heap.IsSliceOf sa v1 v2 v3) (p1 : IsPart v1 lo) (p2 : IsPart v2 hi) (p3 : IsPart v3 (some c)) (hc : c ≠ 0)
    (q1 : c = 1 → (Builtin.Slice.sliceAdjust lo hi c (its.size : Int)).1 = 0 → Builtin.Slice.slicePlaces (Builtin.Slice.sliceAdjust lo hi c (its.size : Int)).1 (Builtin.Slice.sliceAdjust lo hi c (its.size : Int)).2 c = its.size → Q (.ref t) s)
    (q : Q (.ref s.heap.objs.size) { s with heap := s.heap.push { cls := .type "tuple", data := .seq ((List.range (Builtin.Slice.slicePlaces (Builtin.Slice.sliceAdjust lo hi c (its.size : Int)).1 (Builtin.Slice.sliceAdjust lo hi c (its.size : Int)).2 c)).filterMap fun (m : Nat) => its[((Builtin.Slice.sliceAdjust lo hi c (its.size : Int)).1 + (m : Int) * c).toNat]?).toArray } })
    (hz : (List.range (Builtin.Slice.slicePlaces (Builtin.Slice.sliceAdjust lo hi c (its.size : Int)).1 (Builtin.Slice.sliceAdjust lo hi c (its.size : Int)).2 c)).length ≤ sizeLine) : wpAny (model prog w) A (getItem (.ref t) (.ref sa)) Q E s := by
  obtain ⟨ob, g1, g2, g3⟩ := id hs
  have ty : s.TypeIs (.ref sa) "slice" := ⟨ob, g1, g2⟩
  have hzz : sizeOk (.seq ((List.range (Builtin.Slice.slicePlaces (Builtin.Slice.sliceAdjust lo hi c (its.size : Int)).1 (Builtin.Slice.sliceAdjust lo hi c (its.size : Int)).2 c)).filterMap fun (m : Nat) => its[((Builtin.Slice.sliceAdjust lo hi c (its.size : Int)).1 + (m : Int) * c).toNat]?).toArray) := by
    show (List.filterMap _ _).toArray.size ≤ sizeLine
    rw [List.size_toArray]
    exact Nat.le_trans (List.length_filterMap_le _ _) hz
  unfold getItem
  try with_reducible refine wpAny_holding ?_
  first
    | refine wpAny_bind (wpAny_pure ?_)
    | skip
  refine wpAny_bind (wpAny_sequenceKey ht.typeIs (by decide) ?_)
  refine wpAny_bind (wpAny_callSpecial?_slot (name := Str.ofString "__getitem__") ht.typeIs
    PyProof.Rows.slot_tuple_getitem ?_)
  refine wpAny_call_entry PyProof.Rows.slot_tuple_getitem
    ht.typeIs entry_tuple_getitem ?_ (args_tuple_getitem _ _)
  show wpAny _ _ (Builtin.Tuple.tupleItemsOf (.ref t) >>= _) _ _ s
  refine wpAny_bind (tupleItemsOf_ ht ?_)
  refine wpAny_bind (wpAny_typeOf ty ?_)
  rw [if_pos (by decide)]
  refine wpAny_bind (applied_step hs p1 p2 p3 hc ?_)
  dsimp only
  split
  · rename_i hw
    simp only [Bool.and_eq_true, beq_iff_eq] at hw
    obtain ⟨⟨w1, w2⟩, w3⟩ := hw
    have qq := q1 w2 w1 (by omega)
    refine wpAny_bind ?_
    show wpAny _ _ (typeOf (.ref t) >>= fun T => pure (T == .type "tuple")) _ _ s
    refine wpAny_bind (wpAny_typeOf ht.typeIs (wpAny_pure ?_))
    first
      | rw [if_pos (by decide)]
      | simp only [beq_self_eq_true, if_true]
    first
      | exact wpAny_bind (wpAny_rule (wpAny_pure ⟨_, rfl, wpAny_pure qq⟩))
      | exact wpAny_bind (wpAny_rule (wpAny_bind (wpAny_pure (wpAny_pure ⟨_, rfl, wpAny_pure qq⟩))))
  · first
      | exact wpAny_bind (m := Builtin.Tuple.tupleExact _) (wpAny_newObj_type (wpAny_pure ⟨_, rfl, wpAny_pure q⟩) hzz)
      | exact wpAny_bind (m := Builtin.Tuple.tupleExact _) (wpAny_newObj_type (wpAny_bind (wpAny_pure (wpAny_pure ⟨_, rfl, wpAny_pure q⟩))) hzz)
      | exact wpAny_bind (wpAny_bind (m := Builtin.Tuple.tupleExact _) (wpAny_newObj_type (wpAny_pure (wpAny_pure ⟨_, rfl, wpAny_pure q⟩)) hzz))
      | exact wpAny_bind (wpAny_bind (m := Builtin.Tuple.tupleExact _) (wpAny_newObj_type (wpAny_pure ⟨_, rfl, wpAny_pure q⟩) hzz))
end
theorem pick_rep {K : PySem.W.Frag} {mg : Str → Option Value} {ι : List Addr} {H : Hp} {xs : List PV} {vs : List V} (h : Reps K mg ι H xs vs) {α : Type} (f : α → Nat) : ∀ is : List α, Reps K mg ι H (is.filterMap fun m => xs[f m]?) (is.filterMap fun m => vs[f m]?)
  | [] => .nil
  | m :: r => by
    have ih := pick_rep h f r
    rw [List.filterMap_cons, List.filterMap_cons]
    cases e : xs[f m]? with
    | none =>
      have e2 : vs[f m]? = none := by
        rw [List.getElem?_eq_none_iff] at e ⊢
        rw [← h.length]
        exact e
      rw [e2]
      exact ih
    | some x =>
      obtain ⟨v, h1, h2⟩ := h.get (i := f m) (x := x) (by rw [atP_get]; exact e)
      rw [h1]
      exact .cons h2 ih
theorem vals_pick {vs : List V} {us : List Value} (h : Vals vs us) {α : Type} (f : α → Nat) : ∀ is : List α, Vals (is.filterMap fun m => vs[f m]?) (is.filterMap fun m => us[f m]?)
  | [] => .nil
  | m :: r => by
    have ih := vals_pick h f r
    rw [List.filterMap_cons, List.filterMap_cons]
    cases e : vs[f m]? with
    | none => rw [h.none_of e]; exact ih
    | some x =>
      obtain ⟨u, h1, h2⟩ := h.get e
      rw [h1]
      exact .cons h2 ih
section
variable {X : Cx} {W : WX} {a c : Expr} {ma mc : Env → Store → Res PV} {ml mh : Env → Store → Res (Option Int)} {lo hi : Option Expr} {ps pos : Pos}
theorem se_stp (ha : SE X W a ma) (hl : SO X W lo ml) (hh : SO X W hi mh) (hc : SE X W c mc) : SE X W (.Subscript a (.Slice lo hi (some c) ps) pos)
    (fun env st => (ma env st).bind fun x st1 => (ml env st1).bind fun l st2 => (mh env st2).bind fun h st3 => (mc env st3).bind fun k st4 => evStp x l h k st4) := by
  refine ⟨fun pins s σ H Q I h => ?_⟩
  obtain ⟨ι, env, st, S, R, p⟩ := h
  refine Subscript_ (thn (ha.run pins s σ H (fun x H1 => ∃ ι1 px st1, RelS X.K X.mg ι1 H1 env σ ∧ Rel X.K X.mg ι1 H1 st1 ∧ Rep X.K X.mg ι1 H1 px x ∧
    Post (kE (K := X.K) (mg := X.mg)) W σ ι1 H1 Q ((ml env st1).bind fun l st2 => (mh env st2).bind fun h st3 => (mc env st3).bind fun k st4 => evStp px l h k st4)) I
      ⟨ι, env, st, S, R, p.bind fun ι1 px st1 x H1 g1 R1 rx p1 => ⟨ι1, px, st1, S.grow R g1, R1, rx, p1⟩⟩) fun v s1 hv => ?_)
  obtain ⟨x, H1, I1, rv, ι1, px, st1, S1, R1, rx, p1⟩ := hv
  refine wpAny_Slice (thn (hl.run pins s1 σ H1 (fun l H2 => ∃ ι2 st2, RelS X.K X.mg ι2 H2 env σ ∧ Rel X.K X.mg ι2 H2 st2 ∧ Rep X.K X.mg ι2 H2 px x ∧
    Post (kE (K := X.K) (mg := X.mg)) W σ ι2 H2 Q ((mh env st2).bind fun h st3 => (mc env st3).bind fun k st4 => evStp px l h k st4)) I1
      ⟨ι1, env, st1, S1, R1, p1.bind fun ι2 l st2 l' H2 g2 R2 e p2 => by
        have e' : l = l' := e
        subst e'
        exact ⟨ι2, st2, S1.grow R1 g2, R2, Rep.grow R1 g2 rx, p2⟩⟩) fun vl s2 hvl => ?_)
  obtain ⟨l, H2, I2, pl, ι2, st2, S2, R2, rx2, p2⟩ := hvl
  refine thn (hh.run pins s2 σ H2 (fun u H3 => ∃ ι3 st3, RelS X.K X.mg ι3 H3 env σ ∧ Rel X.K X.mg ι3 H3 st3 ∧ Rep X.K X.mg ι3 H3 px x ∧
    Post (kE (K := X.K) (mg := X.mg)) W σ ι3 H3 Q ((mc env st3).bind fun k st4 => evStp px l u k st4)) I2
      ⟨ι2, env, st2, S2, R2, p2.bind fun ι3 u st3 u' H3 g3 R3 e p3 => by
        have e' : u = u' := e
        subst e'
        exact ⟨ι3, st3, S2.grow R2 g3, R3, Rep.grow R2 g3 rx2, p3⟩⟩) fun vu s3 hvu => ?_
  obtain ⟨u, H3, I3, pu, ι3, st3, S3, R3, rx3, p3⟩ := hvu
  refine thn ((po_some hc).run pins s3 σ H3 (fun k H4 => ∃ i ι4 st4, k = some i ∧ Rel X.K X.mg ι4 H4 st4 ∧ Rep X.K X.mg ι4 H4 px x ∧
    Post (kE (K := X.K) (mg := X.mg)) W σ ι4 H4 Q (evStp px l u (.int i) st4)) I3
      ⟨ι3, env, st3, S3, R3, p3.bind fun ι4 pk st4 k' H4 g4 R4 rk p4 => by
        have rk : Rep X.K X.mg ι4 H4 pk k' := rk
        unfold evStp at p4
        split at p4
        · cases rk
          exact ⟨_, rfl, _, ι4, st4, rfl, R4, Rep.grow R3 g4 rx3, p4⟩
        · exact p4.elim⟩) fun vs s4 hvs => ?_
  obtain ⟨o, H4, I4, pst, i, ι4, st4, rfl, R4, rx4, p4⟩ := hvs
  have I5 : Inv X pins σ H4 { s4 with heap := s4.heap.push { cls := .type "slice", data := .fields #[vl, vu, vs] } } := I4.kept (t' := s4.toks) fun b ob q => Heap.get?_push_of_some _ q
  unfold evStp at p4
  simp only at p4
  split at p4
  · exact p4.elim
  · rename_i hi0
    have h0 : i ≠ 0 := hi0
    cases ei : items px st4 with
    | none => rw [ei] at p4; exact p4.elim
    | some q =>
      rw [ei] at p4
      obtain ⟨src, xs⟩ := q
      have lr := items_rep (H0 := H4) R4 rx4 ei
      have isL : isLst src = true → Post (kE (K := X.K) (mg := X.mg)) W σ ι4 H4 Q (allocL (pickL xs l u i) st4) → wpAny (model X.prog X.w) X.A (subscriptTail a (.Slice lo hi (some c) ps) v (.ref s4.heap.objs.size)) (EP X pins σ Q) X.xe
          { s4 with heap := s4.heap.push { cls := .type "slice", data := .fields #[vl, vu, vs] } } := by
        intro hL pp
        obtain ⟨a', ws, rfl, rs, hq⟩ := lr.lst hL
        obtain rfl : v = Value.ref a' := rv
        obtain ⟨its, r, ht, hz⟩ := I5.list hq
        have hlen := r.length
        refine tail_any (ops := [.ref a', .ref s4.heap.objs.size]) ht.isList.typeIs (PySem.slot_list_getitem.lookup) ?_ (by with_unfolding_all rfl)
        refine wpAny_getItem_list_slice ht.isList (Heap.IsSliceOf.new _ vl vu vs) pl pu pst (by intro z; exact h0 (Option.some.inj z)) ?_ (by rw [List.size_toArray]; omega)
        refine ⟨.ref _, _, I5.laid (t' := s4.toks) (o := .lst ((sliceRange (sliceBounds l u (some i) ws.length).1 (sliceBounds l u (some i) ws.length).2.1 (sliceBounds l u (some i) ws.length).2.2).filterMap (ws[·]?))) (fun b ob q => Heap.get?_push_of_some _ q) (Nat.le_refl _) ?_, rfl, ?_⟩
        · have e1 : (slicePick its.toArray l u (some i)).toList = (sliceRange (sliceBounds l u (some i) ws.length).1 (sliceBounds l u (some i) ws.length).2.1 (sliceBounds l u (some i) ws.length).2.2).filterMap (its[·]?) := by
            unfold slicePick
            rw [List.size_toArray, ← hlen]
            simp
          have vp := vals_pick r id (sliceRange (sliceBounds l u (some i) ws.length).1 (sliceBounds l u (some i) ws.length).2.1 (sliceBounds l u (some i) ws.length).2.2)
          refine ⟨?_, _, 0, vp, ?_⟩
          · have sz := slicePick_size_le its.toArray l u (some i)
            rw [← Array.length_toList, e1, List.size_toArray] at sz
            have vl := Vals.length vp
            simp only [id] at vl
            omega
          · rw [Heap.get?_push_size _ rfl]
            have e2 : (slicePick its.toArray l u (some i)) = (List.filterMap (fun m => its[id m]?) (sliceRange (sliceBounds l u (some i) ws.length).1 (sliceBounds l u (some i) ws.length).2.1 (sliceBounds l u (some i) ws.length).2.2)).toArray := by
              rw [← Array.toList_inj, e1]
              simp
            rw [e2]
        · refine post_alloc pp R4 ?_ (I5.hok.fresh (Nat.le_refl _))
          unfold pickL
          rw [rs.length]
          exact pick_rep rs id _
      cases src with
      | tmp => exact isL rfl p4
      | obj n => exact isL rfl p4
      | rol => exact isL rfl p4
      | tup =>
        obtain ⟨a', ws, rfl, rs, hq⟩ := lr
        simp only at p4 rs hq
        obtain rfl : v = Value.ref a' := rv
        obtain ⟨its, r, ht, hz⟩ := I5.tuple hq
        have hlen := r.length
        refine tail_any (ops := [.ref a', .ref s4.heap.objs.size]) ht.typeIs (PyProof.Rows.slot_tuple_getitem.lookup) ?_ (by with_unfolding_all rfl)
        have hsz : its.toArray.size = xs.length := by rw [List.size_toArray, ← hlen, ← rs.length]
        split at p4
        · rename_i hcnt
          have vp := vals_pick r (fun m : Nat => ((Builtin.Slice.sliceAdjust l u i xs.length).1 + (m : Int) * i).toNat) (List.range (Builtin.Slice.slicePlaces (Builtin.Slice.sliceAdjust l u i xs.length).1 (Builtin.Slice.sliceAdjust l u i xs.length).2 i))
          have rp := pick_rep rs (fun m : Nat => ((Builtin.Slice.sliceAdjust l u i xs.length).1 + (m : Int) * i).toNat) (List.range (Builtin.Slice.slicePlaces (Builtin.Slice.sliceAdjust l u i xs.length).1 (Builtin.Slice.sliceAdjust l u i xs.length).2 i))
          refine tuple_step ht (Heap.IsSliceOf.new _ vl vu vs) pl pu pst h0 (fun z1 z2 z3 => ?_) ?_ ?_
          · -- the whole of it
            rw [hsz] at z2 z3
            subst z1
            refine ⟨.ref a', H4, I5, rfl, p4.here R4 (.tup hq ?_)⟩
            have e : pickT xs l u 1 = xs := by
              unfold pickT
              rw [z3, z2]
              refine List.ext_getElem? fun j => ?_
              have gen : ∀ (l : List Nat) (F : Nat → Option PV) (G : Nat → PV), (∀ m ∈ l, F m = some (G m)) → l.filterMap F = l.map G := by
                intro l F G
                induction l with
                | nil => intro _; rfl
                | cons a l ih => intro h; rw [List.filterMap_cons, h a List.mem_cons_self]; simp [ih fun m hm => h m (List.mem_cons_of_mem _ hm)]
              rw [gen _ _ (fun m => (xs[m]?).getD .non) fun m hm => ?_]
              · by_cases hj : j < xs.length
                · simp [hj]
                · rw [List.getElem?_eq_none (by simpa using hj), List.getElem?_eq_none (by omega)]
              · have hm := List.mem_range.mp hm
                have e0 : ((0 : Int) + (m : Int) * 1).toNat = m := by omega
                rw [e0]
                simp [hm]
            rw [e]
            exact rs
          · rw [hsz]
            have fr : H4 (s4.heap.push { cls := .type "slice", data := .fields #[vl, vu, vs] }).objs.size = none := I5.hok.fresh (Nat.le_refl _)
            refine ⟨.ref _, _, I5.laid (t' := s4.toks) (o := .tup _) (fun b ob q => Heap.get?_push_of_some _ q) (Nat.le_refl _) ⟨?_, _, vp, ?_⟩, rfl, post_tup p4 R4 rp fr⟩
            · refine Nat.le_trans (List.length_filterMap_le _ _) ?_
              rw [List.length_range]
              exact hcnt
            · refine ⟨_, Heap.get?_push_size _ rfl, rfl, 0, ?_⟩
              simp
          · rw [hsz, List.length_range]
            exact hcnt
        · exact p4.elim
end
end Ev

namespace Ev
open PySem PySem.Spec L2
open AutoSeq1 (wpAny_loadPart')

/-- enumerate of a tuple is made -/
theorem meets_enumT (l : Addr) (its : Array Value) (n : Nat) (dd : Option Addr) (sl : Array (Option Value)) :
    Meets (Builtin.«enumerate.__new__» ⟨[.type "enumerate", .ref l], []⟩) (fun _ R s =>
      s.heap.get? l = some { cls := .type "tuple", dict := dd, data := .seq its n, slots := sl } ∧
      R (.ok (.ret (.ref (s.heap.push { cls := .type "tuple_iterator", data := .fields #[.ref l, .int 0 0] }).objs.size)))
        { s with heap := Heap.push (s.heap.push { cls := .type "tuple_iterator", data := .fields #[.ref l, .int 0 0] }) ({ cls := .type "enumerate", data := .fields #[.none, .bool false, .ref s.heap.objs.size, rawInt 0, .none, .none] } : Obj) }) :=
  .of_wp fun prog w A R s h => by
    obtain ⟨hp, gn, dr, tok, o5⟩ := s
    obtain ⟨hT0, hR⟩ := h
    have hsb := sub_enumerate
    have hT : Heap.IsTuple (Shared.heap ⟨hp, gn, dr, tok, o5⟩) l its := ⟨_, hT0, rfl, n, rfl⟩
    wp_walk using wpAny_loadPart' hT0
    refine wpAny_stack_any (fun stk => wpAny_pure ?_)
    split
    · rename_i c _ _ _ _ _
      cases (c == Value.type "enumerate")
      all_goals (wp_walk using wpAny_loadPart' hT0, wpAny_pyIter_tuple hT)
      all_goals exact ⟨_, rfl, hR⟩
    · wp_walk using wpAny_loadPart' hT0, wpAny_pyIter_tuple hT
      exact ⟨_, rfl, hR⟩
theorem call_enumT {prog : Program} {w : World} {A : Around} {E : Value → Shared → Prop} {s : Shared} {l : Addr} {its : Array Value} {Q : Value → Shared → Prop} (hL : s.heap.IsTuple l its)
    (h : ∀ h', IsEnum h' (s.heap.objs.size + 1) s.heap.objs.size 0 .none → h'.IsTupleIter s.heap.objs.size l 0 →
      (∀ b o, s.heap.get? b = some o → h'.get? b = some o) → Q (.ref (s.heap.objs.size + 1)) { s with heap := h' }) :
    wpAny (model prog w) A (call (.type "enumerate") [.ref l]) Q E s := by
  obtain ⟨⟨c, dd, dt, sl⟩, hl, hc, n, hd⟩ := hL
  have hc' : c = .type "tuple" := hc
  have hd' : dt = .seq its n := hd
  subst hc' hd'
  refine callType_new F.called_enumerate (by decide) (F.typeCall_enumerate_1 _) (F.newCall_enumerate_1 _)
    (fun ob => F.args_object_init_2 ob _) F.entry_enumerate_new (meets_enumT l its n dd sl) ⟨hl, ?_⟩
  have z1 : (s.heap.push { cls := .type "tuple_iterator", data := .fields #[.ref l, .int 0 0] }).objs.size = s.heap.objs.size + 1 := Heap.size_push ..
  show _ ∧ _
  rw [z1]
  have en : IsEnum (Heap.push (s.heap.push { cls := .type "tuple_iterator", data := .fields #[.ref l, .int 0 0] }) ({ cls := .type "enumerate", data := .fields #[.none, .bool false, .ref s.heap.objs.size, rawInt 0, .none, .none] } : Obj))
      (s.heap.objs.size + 1) s.heap.objs.size 0 .none := by
    have q := Heap.get?_push_size (s.heap.push { cls := .type "tuple_iterator", data := .fields #[.ref l, .int 0 0] })
      (o := { cls := .type "enumerate", data := .fields #[.none, .bool false, .ref s.heap.objs.size, rawInt 0, .none, .none] }) rfl
    rw [z1] at q
    exact q
  refine ⟨⟨_, en, rfl⟩, h _ en ⟨_, Heap.get?_push_of_some _ (Heap.get?_push_size _ rfl), rfl, rfl⟩ fun b o x => ?_⟩
  exact Heap.get?_push_of_some _ (Heap.get?_push_of_some _ x)

/-- the tuple at a, each item in a new pair -/
def IteT (K : PySem.W.Frag) (a : Addr) : L2.It where
  go := fun i H => ∃ (xs : List V) (x : V), SqT K H a xs ∧ xs[i]? = some x
  yld := fun i H v H' => ∃ T x, v = .ref T ∧ H T = none ∧ H' = upd H T (.tup [.int (i : Nat), x]) ∧ ∀ xs, SqT K H a xs → xs[i]? = some x
  stop := fun i H => ∃ xs : List V, SqT K H a xs ∧ xs.length = i
theorem turn_enumT {P : Program} {w : World} {K : PySem.W.Frag} {elts : List Expr} {kk : Nat} {tpos : Pos} (a e it : Addr) (hae : a ≠ e) (hai : a ≠ it) :
    Turn P w K (.Tuple elts kk tpos) (IteT K a) [e, it] e (fun i h => (∃ old, IsEnum h e it ((i : Nat) : Int) old) ∧ h.IsTupleIter it a i ∧ e ≠ it) where
  mem := List.mem_cons_self
  obj := fun i h st b hb => by
    obtain ⟨⟨old, he⟩, ⟨o, ho, hc, hd⟩, _⟩ := st
    rcases List.mem_cons.mp hb with z | hb
    · rw [z]
      exact ⟨_, he, fun v q => nomatch q⟩
    · have z : b = it := by simpa using hb
      exact ⟨o, by rw [z]; exact ho, fun v q => by rw [hd] at q; cases q⟩
  keep := fun i h h' st k => by
    obtain ⟨⟨old, he⟩, hi, hne⟩ := st
    exact ⟨⟨old, k e List.mem_cons_self _ he⟩, hi.at fun o q => k it (by simp) o q, hne⟩
  item := by
    intro X hP hw hK hc i pins s σ H E I hf st hg
    subst hP hw hK
    obtain ⟨⟨old, he⟩, hit, hne⟩ := st
    obtain ⟨xs, x, hq, hx⟩ := hg
    obtain ⟨its, rv, tp, hz⟩ := I.tuple hq
    obtain ⟨u, hu, ru⟩ := rv.get hx
    have hel : e < s.heap.objs.size := Heap.lt_size he
    have hil : it < s.heap.objs.size := by
      obtain ⟨_, q, _⟩ := hit
      exact Heap.lt_size q
    have D := Draws.tuple (prog := X.prog) (w := X.w) (A := X.A.in1) (I.ok.hd hc) it a hai its.toArray
    have hlt : i < its.toArray.size := by
      rw [List.size_toArray]
      exact (List.getElem?_eq_some_iff.mp hu).1
    refine wpAny_pyNext_enum_itemD D he ⟨hit, tp⟩ hlt hne (by simp; exact ⟨hne, fun z => hae z.symm⟩) fun y h1 tk hy ho st1 hT hsz hk => ?_
    have ey : y = u := by
      have e1 : its.toArray[i]? = some y := hy
      rw [List.getElem?_toArray, hu] at e1
      exact (Option.some.inj e1).symm
    subst ey
    refine ⟨_, rfl, wpAny_letOwnedTupleGo_enum (s := { s with heap := h1, toks := tk + 1 }) ho fun h2 he2 sb => ?_⟩
    have hT2 : h2.get? s.heap.objs.size = some { cls := .type "tuple", data := .seq #[.int i tk, y] } := (sb.2 _ (Nat.ne_of_gt hel)).trans hT
    have new : ObjOk X.prog X.w (upd H s.heap.objs.size (.tup [.int (i : Nat), x])) h2 s.heap.objs.size (.tup [.int (i : Nat), x]) := by
      refine ⟨by show 2 ≤ sizeLine; decide, [.int i tk, y], ?_, ⟨_, hT2, rfl, _, rfl⟩⟩
      exact .cons ⟨_, rfl⟩ (.cons ru .nil)
    have keep : ∀ b ob, b ∉ [e, it] → s.heap.get? b = some ob → h2.get? b = some ob := fun b ob hb q => by
      have n1 : b ≠ e := fun z => hb (by simp [z])
      have n2 : b ≠ it := fun z => hb (by simp [z])
      exact (sb.2 b n1).trans (hk b ob n1 n2 q)
    have I1 : Inv X pins σ (upd H s.heap.objs.size (.tup [.int (i : Nat), x])) { s with heap := h2, toks := tk + 1 } :=
      I.turnedNew (ch := [e, it]) keep hf (Nat.le_refl _) new
    refine ⟨.ref s.heap.objs.size, _, I1, rfl, ⟨_, x, rfl, I.hok.fresh (Nat.le_refl _), rfl, fun ys hy => ?_⟩, ⟨⟨y, ?_⟩, ?_, hne⟩, fun b hb => ?_⟩
    · rw [I.tuple_inj hy hq]
      exact hx
    · have e1 : ((i + 1 : Nat) : Int) = (i : Int) + 1 := by omega
      rw [e1]
      exact he2
    · exact st1.1.at fun o q => (sb.2 it (Ne.symm hne)).trans q
    · have hb' : b < s.heap.objs.size := by
        rcases List.mem_cons.mp hb with z | hb
        · rw [z]; exact hel
        · have z : b = it := by simpa using hb
          rw [z]; exact hil
      rw [upd_ne (Nat.ne_of_lt hb')]
      exact (hf b hb).1
  done := by
    intro X hP hw hK hc i pins s σ H E I hf st hg
    subst hP hw hK
    obtain ⟨⟨old, he⟩, hit, hne⟩ := st
    obtain ⟨xs, hq, hx⟩ := hg
    obtain ⟨its, rv, tp, hz⟩ := I.tuple hq
    obtain ⟨f0, f1, f2, f3, f4, f5⟩ := hf it (by simp)
    have D := Draws.tuple (prog := X.prog) (w := X.w) (A := X.A.in1) (I.ok.hd hc) it a hai its.toArray
    have en : its.toArray.size = i := by rw [List.size_toArray, ← rv.length, hx]
    refine wpAny_pyNext_enum_endD D he (by rw [en]; exact ⟨hit, tp⟩) fun h1 eb => ⟨rfl, ?_⟩
    exact I.turned (t' := s.toks) (fun b o hb q => eb b o hb q) f0 f1 f3 f4 f5
  self := fun A i s Q E st h => by
    obtain ⟨⟨_, he⟩, _⟩ := st
    exact wpAny_pyIter_enum he h
end Ev

namespace Ev
open PySem PySem.Spec L2

/-! ### targets -/
theorem wipe_comm (σ : St) (i : Nat) : ∀ vs : List Nat, (wipe (σ.set i none) vs) = (wipe σ vs).set i none
  | [] => rfl
  | v :: vs => by
    simp only [wipe]
    rw [wipe_comm σ i vs]
    by_cases h : i = v
    · subst h
      rfl
    · rw [List.set_comm _ _ h]
theorem wipe_set {i : Nat} {x : Option V} : ∀ {vs : List Nat} (σ : St), i ∈ vs → wipe (σ.set i x) vs = wipe σ vs
  | v :: vs, σ, h => by
    simp only [wipe]
    by_cases e : i = v
    · subst e
      by_cases hm : i ∈ vs
      · rw [wipe_set σ hm]
      · have : ∀ vs : List Nat, i ∉ vs → ∀ σ : St, wipe (σ.set i x) vs = (wipe σ vs).set i x := by
          intro vs
          induction vs with
          | nil => intro _ _; rfl
          | cons w ws ih =>
            intro hm σ
            have h1 : i ≠ w := fun z => hm (by simp [z])
            have h2 : i ∉ ws := fun z => hm (by simp [z])
            simp only [wipe]
            rw [ih h2, List.set_comm _ _ h1]
        rw [this vs hm, List.set_set]
    · have hm : i ∈ vs := by
        rcases List.mem_cons.mp h with z | z
        · exact absurd z e
        · exact z
      rw [wipe_set σ hm]
theorem wipe_idem (σ : St) (ws : List Nat) : ∀ vs : List Nat, (∀ v ∈ vs, v ∈ ws) → wipe (wipe σ vs) ws = wipe σ ws
  | [], _ => rfl
  | v :: vs, h => by
    simp only [wipe]
    rw [wipe_set _ (h v List.mem_cons_self)]
    exact wipe_idem σ ws vs fun w hw => h w (List.mem_cons_of_mem _ hw)

/-- a target's reading by the evaluator: the names at is -/
def gEv (K : PySem.W.Frag) (mg : Str → Option Value) (one : Bool) (is : List Nat) : TG := fun v σ H Q =>
  ∃ ι st env x env', Rel K mg ι H st ∧ RelS K mg ι H env σ ∧ Rep K mg ι H x v ∧ bindT one is x env = some env' ∧ ∀ σ', RelS K mg ι H env' σ' → (∀ vs, (∀ i ∈ is, i ∈ vs) → wipe σ' vs = wipe σ vs) → Q σ' H
theorem _root_.L2.PG.imp {X : Cx} {e : Expr} {t t' : TG} (h : PG X e t) (i : ∀ v σ H Q, t' v σ H Q → t v σ H Q) : PG X e t' := ⟨fun pins s σ H v u Q I r q => h.run pins s σ H v u Q I r (i v σ H Q q)⟩
/-- the names of a target's places -/
def tgNames (N : List Str) : List Nat → List Expr → Bool
  | [], [] => true
  | i :: is, .Name x _ :: es => decide (N[i]? = some x) && tgNames N is es
  | _, _ => false
def locB (sc : Scope) (fn : Str → Bool) (x : Str) : Bool := match sc.names.lookup x with
  | some .local => true
  | some .cell => fn x
  | _ => false
theorem locB_ok {sc : Scope} {fn : Str → Bool} {x : Str} (h : locB sc fn x = true) : Loc sc x ∧ (fn x = true ∨ sc.names.lookup x = some .local) := by
  unfold locB at h
  split at h
  · rename_i e; exact ⟨.inl e, .inr e⟩
  · rename_i e; exact ⟨.inr e, .inl h⟩
  · cases h
def tgOk (sc : Scope) (N : List Str) (fn : Str → Bool) : List Nat → List Expr → Bool
  | [], [] => true
  | i :: is, e :: es => (match e with
    | .Name x _ => decide (N[i]? = some x) && locB sc fn x
    | _ => false) && tgOk sc N fn is es
  | _, _ => false
section
variable {X : Cx} {W : WX} {pos : Pos}
theorem sg_name {i : Nat} {x : Str} (hN : X.N.Nodup) (hi : X.N[i]? = some x) (hl : locB X.env.scope X.fn x = true) : PG X (.Name x pos) (gEv X.K X.mg true [i]) := by
  obtain ⟨h1, h2⟩ := locB_ok hl
  refine (pg_name hN hi h1 h2).imp fun v σ H Q h => ?_
  obtain ⟨ι, st, env, px, env', R, S, r, e, q⟩ := h
  simp only [bindT, Option.some.injEq] at e
  subst e
  exact q _ (S.set r) fun vs hv => wipe_set σ (hv i (by simp))
theorem bindTs_eq : ∀ (is : List Nat) (vs : List PV) (env : Env), bindT.bindTs is vs env = setAll is vs env
  | [], [], _ => rfl
  | [], _ :: _, _ => rfl
  | _ :: _, [], _ => rfl
  | i :: is, v :: vs, env => by
    simp only [bindT.bindTs, setAll]
    exact bindTs_eq is vs _
/-- several names, one after another -/
def gEvs (K : PySem.W.Frag) (mg : Str → Option Value) (is : List Nat) : TGs := fun vs σ H Q =>
  ∃ ι st env xs env', Rel K mg ι H st ∧ RelS K mg ι H env σ ∧ Reps K mg ι H xs vs ∧ setAll is xs env = some env' ∧ ∀ σ', RelS K mg ι H env' σ' → (∀ vs, (∀ i ∈ is, i ∈ vs) → wipe σ' vs = wipe σ vs) → Q σ' H
theorem _root_.L2.PGs.imp {X : Cx} {e : List Expr} {t t' : TGs} (h : PGs X e t) (i : ∀ v σ H Q, t' v σ H Q → t v σ H Q) : PGs X e t' := ⟨fun pins s σ H v u Q I r q => h.run pins s σ H v u Q I r (i v σ H Q q)⟩
theorem sgs_names (hN : X.N.Nodup) : ∀ (is : List Nat) (es : List Expr), tgOk X.env.scope X.N X.fn is es = true → PGs X es (gEvs X.K X.mg is) ∧ (assignEach es X.env).length = is.length ∧ (assignEach es X.env).findIdx? (·.1) = none
  | [], [], _ => by
    refine ⟨pgs_nil.imp fun v σ H Q h => ?_, rfl, rfl⟩
    obtain ⟨ι, st, env, xs, env', R, S, r, e, q⟩ := h
    cases xs with
    | nil =>
      cases r
      simp only [setAll, Option.some.injEq] at e
      subst e
      exact ⟨rfl, q σ S fun _ _ => rfl⟩
    | cons x xs => cases e
  | [], _ :: _, h => by cases h
  | _ :: _, [], h => by cases h
  | i :: is, e :: es, h => by
    simp only [tgOk, Bool.and_eq_true] at h
    obtain ⟨h1, h2⟩ := h
    cases e with
    | Name x p =>
      simp only [Bool.and_eq_true, decide_eq_true_eq] at h1
      obtain ⟨h3, h4⟩ := locB_ok h1.2
      obtain ⟨ih1, ih2, ih3⟩ := sgs_names hN is es h2
      refine ⟨(pgs_cons (pg_name hN h1.1 h3 h4) ih1 rfl).imp fun v σ H Q h => ?_, ?_, ?_⟩
      · obtain ⟨ι, st, env, xs, env', R, S, r, e, q⟩ := h
        cases xs with
        | nil => cases e
        | cons y ys =>
          cases r with
          | cons r1 r2 =>
            simp only [setAll] at e
            refine ⟨_, _, rfl, ι, st, _, ys, env', R, S.set r1, r2, e, fun σ' S' w' => q σ' S' fun vs hv => ?_⟩
            rw [w' vs fun j hj => hv j (List.mem_cons_of_mem _ hj)]
            exact wipe_set σ (hv i List.mem_cons_self)
      · show (assignEach es X.env).length + 1 = _
        rw [ih2]
        rfl
      · show List.findIdx? _ ((false, _) :: assignEach es X.env) = none
        rw [List.findIdx?_cons, ih3]
        rfl
    | _ => cases h1
theorem sg_tup {is : List Nat} {es : List Expr} {k : Nat} (hc : X.calm = true) (hN : X.N.Nodup) (h : tgOk X.env.scope X.N X.fn is es = true) : PG X (.Tuple es k pos) (gEv X.K X.mg false is) := by
  obtain ⟨h1, h2, h3⟩ := sgs_names hN is es h
  refine (pg_tup hc h1 h2 h3).imp fun v σ H Q h => ?_
  obtain ⟨ι, st, env, px, env', R, S, r, e, q⟩ := h
  simp only [bindT] at e
  split at e
  · rename_i xs
    cases r with
    | tup s1 r1 =>
      rw [bindTs_eq] at e
      have hl : ∀ (is : List Nat) (xs : List PV) (env env' : Env), setAll is xs env = some env' → xs.length = is.length := by
        intro is
        induction is with
        | nil => intro xs env env' e; cases xs <;> simp [setAll] at e; rfl
        | cons i is ih =>
          intro xs env env' e
          cases xs with
          | nil => cases e
          | cons x xs => simp only [setAll] at e; simp [ih _ _ _ e]
      exact ⟨_, _, rfl, s1, by rw [← r1.length]; exact hl _ _ _ _ e, ι, st, env, xs, env', R, S, r1, e, q⟩
  · cases e
end

/-! ### what a loop walks -/
def nxtA (j : Itr) (i : Nat) (st : Store) : Option (Option PV) := match j with
  | .st xs => some (atP xs i)
  | j => nxtI j i st
def inB (j : Itr) (i : Nat) : Prop := match j with
  | .st xs => i ≤ xs.length
  | _ => True
/-- an iterator of the evaluator and one of the model, from (ι0, H0) on -/
def IRep (K : PySem.W.Frag) (mg : Str → Option Value) (ι0 : List Addr) (H0 : Hp) (j : Itr) (J : L2.It) : Prop :=
  ∀ ι H st i, Grow ι0 H0 ι H → Rel K mg ι H st → inB j i →
    (∀ x, nxtA j i st = some (some x) → J.go i H ∧ ∀ v H', J.yld i H v H' → Grow ι H ι H' ∧ Rel K mg ι H' st ∧ Rep K mg ι H' x v) ∧ (nxtA j i st = some none → J.stop i H)
def PostI {K : PySem.W.Frag} {mg : Str → Option Value} (W : WX) (σ : St) (ι : List Addr) (H : Hp) (Q : L2.It → Hp → Prop) : Res Itr → Prop
  | .ok j st => ∀ J ι' H', Grow ι H ι' H' → Rel K mg ι' H' st → IRep K mg ι' H' j J → Q J H'
  | .exc x st => ∀ cls d ι' H', Grow ι H ι' H' → Rel K mg ι' H' st → RepX K mg ι' H' x cls d → W cls d σ H'
  | .stuck => False
def SI (X : Cx) (W : WX) (tg iter : Expr) (m : Env → Store → Res Itr) : Prop := PI X tg iter (fun σ H Q => ∃ ι env st, RelS X.K X.mg ι H env σ ∧ Rel X.K X.mg ι H st ∧ PostI (K := X.K) (mg := X.mg) W σ ι H Q (m env st))
theorem _root_.L2.PI.imp {X : Cx} {tg e : Expr} {t t' : TI} (h : PI X tg e t) (i : ∀ σ H Q, t' σ H Q → t σ H Q) : PI X tg e t' := ⟨fun pins s σ H Q I q => h.run pins s σ H Q I (i σ H Q q)⟩
section
variable {K : PySem.W.Frag} {mg : Str → Option Value} {W : WX} {σ : St} {ι : List Addr} {H : Hp} {Q : L2.It → Hp → Prop} {α β : Type} {k : Kd K mg α β}
theorem PostI.bind {Q' : β → Hp → Prop} {r : Res α} {f : α → Store → Res Itr} (p : PostI (K := K) (mg := mg) W σ ι H Q (r.bind f))
    (hk : ∀ ι1 a st1 b H1, Grow ι H ι1 H1 → Rel K mg ι1 H1 st1 → k.rr H ι1 H1 st1 a b → PostI (K := K) (mg := mg) W σ ι1 H1 Q (f a st1) → Q' b H1) : Post k W σ ι H Q' r := by
  cases r with
  | ok a st =>
    intro b ι1 H1 g R h
    refine hk ι1 a st b H1 g R h ?_
    simp only [Res.bind] at p
    generalize hf : f a st = z at p ⊢
    cases z with
    | ok j s2 => exact fun J ι' H' g' R' h' => p J ι' H' (g.trans g') R' h'
    | exc x s2 => exact fun cls d ι' H' g' R' h' => p cls d ι' H' (g.trans g') R' h'
    | stuck => exact p
  | exc x st => exact p
  | stuck => exact p
theorem PostI.here {j : Itr} {J : L2.It} {st : Store} (p : PostI (K := K) (mg := mg) W σ ι H Q (.ok j st)) (R : Rel K mg ι H st) (h : IRep K mg ι H j J) : Q J H := p J ι H (Grow.refl _ _) R h
/-- a tuple -/
theorem irep_tup {a : Addr} {xs : List PV} {vs : List V} {st : Store} (R0 : Rel K mg ι H st) (hs : Reps K mg ι H xs vs) (hq : SqT K H a vs) : IRep K mg ι H (.st xs) (Itt K a) := by
  intro ι' H' st' i g R hi
  have hq' := R0.seqT g hq
  have hs' := hs.grow R0 g
  refine ⟨fun x e => ?_, fun e => ?_⟩
  · simp only [nxtA, Option.some.injEq] at e
    obtain ⟨v, hv, rv⟩ := hs'.get e
    refine ⟨⟨vs, v, hq', hv⟩, fun u H2 hy => ?_⟩
    obtain ⟨rfl, hy⟩ := hy
    have := hy vs hq'
    rw [hv] at this
    cases this
    exact ⟨Grow.refl _ _, R, rv⟩
  · simp only [nxtA, Option.some.injEq] at e
    refine ⟨vs, hq', ?_⟩
    rw [atP_get, List.getElem?_eq_none_iff] at e
    rw [← hs'.length]
    exact e
/-- a list that the store does not know -/
theorem irep_lst {a : Addr} {xs : List PV} {vs : List V} {st : Store} (R0 : Rel K mg ι H st) (hs : Reps K mg ι H xs vs) (hq : ∀ ι' H', Grow ι H ι' H' → SqL K H' a vs) : IRep K mg ι H (.st xs) (Itl K a) := by
  intro ι' H' st' i g R hi
  have hq' := hq _ _ g
  have hs' := hs.grow R0 g
  refine ⟨fun x e => ?_, fun e => ?_⟩
  · simp only [nxtA, Option.some.injEq] at e
    obtain ⟨v, hv, rv⟩ := hs'.get e
    refine ⟨⟨vs, v, hq', hv⟩, fun u H2 hy => ?_⟩
    obtain ⟨rfl, hy⟩ := hy
    have := hy vs hq'
    rw [hv] at this
    cases this
    exact ⟨Grow.refl _ _, R, rv⟩
  · simp only [nxtA, Option.some.injEq] at e
    refine ⟨vs, hq', ?_⟩
    rw [atP_get, List.getElem?_eq_none_iff] at e
    rw [← hs'.length]
    exact e
end
section
variable {X : Cx} {W : WX} {tg e a b c : Expr} {m ma mb mc : Env → Store → Res PV} {mq mr : Env → Store → Res (Src × List PV)} {pos p : Pos}
/-- a list or a tuple is walked -/
theorem pi_any {t : TE} (h : PE X e t) : PI X tg e (fun σ H R => t σ H fun x H1 => ∃ a, x = .ref a ∧ (((∃ xs, SqL X.K H1 a xs) ∧ R (Itl X.K a) H1) ∨ ((∃ xs, SqT X.K H1 a xs) ∧ R (Itt X.K a) H1))) := by
  refine ⟨fun pins s σ H R I q => thn (h.run pins s σ H _ I q) fun u s1 hx => ?_⟩
  obtain ⟨x, H1, I1, ru, a, rfl, hq⟩ := hx
  obtain rfl : u = Value.ref a := ru
  have fp : ∀ z ∈ [s1.heap.objs.size], FpOk X pins H1 z := fun z hz => by
    have e : z = s1.heap.objs.size := by simpa using hz
    rw [e]
    exact I1.fpOk (Nat.le_refl _) (I1.hok.fresh (Nat.le_refl _))
  rcases hq with ⟨⟨xs, hl⟩, q⟩ | ⟨⟨xs, ht⟩, q⟩
  · obtain ⟨its, rv, pl, hz⟩ := I1.list hl
    refine wpAny_pyIter_list pl.isList ⟨_, _, _, _, H1, rfl, I1.kept (t' := s1.toks) (fun z o w => Heap.get?_push_of_some _ w), turn_list a _, ?_, fp, q⟩
    exact ⟨_, Heap.get?_push_size _ rfl, rfl, rfl⟩
  · obtain ⟨its, rv, tp, hz⟩ := I1.tuple ht
    have tp' : s1.heap.IsTuple a its.toArray := tp
    refine wpAny_pyIter_tuple tp' ⟨_, _, _, _, H1, rfl, I1.kept (t' := s1.toks) (fun z o w => Heap.get?_push_of_some _ w), turn_tuple a _, ?_, fp, q⟩
    exact ⟨_, Heap.get?_push_size _ rfl, rfl, rfl⟩
theorem irep_obj {K : PySem.W.Frag} {mg : Str → Option Value} {ι : List Addr} {H : Hp} {n : Nat} {a : Addr} (e : ι[n]? = some a) : IRep K mg ι H (.ob n) (Itl K a) := by
  intro ι' H' st' i g R _
  have e' := g.get e
  obtain ⟨o, ho, hr⟩ := R.obj n a e'
  refine ⟨fun x en => ?_, fun en => ?_⟩
  · simp only [nxtA, nxtI, ho] at en
    cases o with
    | dct kvs => cases en
    | lst ys =>
      simp only [Option.some.injEq] at en
      obtain ⟨vs, h1, r1⟩ := hr
      obtain ⟨v, hv, rv⟩ := r1.get en
      refine ⟨⟨vs, v, SqL.of h1, hv⟩, fun u H2 hy => ?_⟩
      obtain ⟨rfl, hy⟩ := hy
      have := hy vs (SqL.of h1)
      rw [hv] at this
      cases this
      exact ⟨Grow.refl _ _, R, rv⟩
  · simp only [nxtA, nxtI, ho] at en
    cases o with
    | dct kvs => cases en
    | lst ys =>
      simp only [Option.some.injEq] at en
      obtain ⟨vs, h1, r1⟩ := hr
      refine ⟨vs, SqL.of h1, ?_⟩
      rw [atP_get, List.getElem?_eq_none_iff] at en
      rw [← r1.length]
      exact en
theorem si_seq (h : SQ X W e mq) : SI X W tg e (fun env st => (mq env st).bind fun q st1 => .ok (srcI q) st1) := by
  refine (pi_any h).imp fun σ H R h => ?_
  obtain ⟨ι, env, st, S, R0, p⟩ := h
  refine ⟨ι, env, st, S, R0, p.bind fun ι1 q st1 v H1 g1 R1 rx p1 => ?_⟩
  obtain ⟨src, xs⟩ := q
  obtain ⟨a, vs, rfl, rs, hq⟩ := rx
  refine ⟨a, rfl, ?_⟩
  cases src with
  | tup => exact .inr ⟨⟨vs, hq⟩, p1.here R1 (irep_tup R1 rs hq)⟩
  | tmp => exact .inl ⟨⟨vs, SqL.of hq.1⟩, p1.here R1 (irep_lst R1 rs (fun ι' H' g => SqL.of (g.ext _ _ hq.1 hq.2.1)))⟩
  | obj n => exact .inl ⟨⟨vs, SqL.of hq.2.2⟩, p1.here R1 (irep_obj hq.1)⟩
  | rol =>
    have hq : SqR X.K H1 a vs := hq
    exact .inl ⟨⟨vs, hq.sqL⟩, p1.here R1 (irep_lst R1 rs (fun ι' H' g => (SqR.grow R1 g hq).sqL))⟩
end
end Ev

namespace Ev
open PySem PySem.Spec L2
section
variable {K : PySem.W.Frag} {mg : Str → Option Value} {ι : List Addr} {H : Hp}
/-! ### ranges -/
theorem atP_rngL : ∀ (n : Nat) (lo : Int) (i : Nat), atP (rngL lo n) i = if i < n then some (.int (lo + i)) else none
  | 0, _, i => by simp [rngL, atP]
  | n + 1, lo, 0 => by simp [rngL, atP]
  | n + 1, lo, i + 1 => by
    simp only [rngL, atP]
    rw [atP_rngL n (lo + 1) i]
    by_cases h : i < n
    · rw [if_pos h, if_pos (by omega)]
      congr 2
      omega
    · rw [if_neg h, if_neg (by omega)]
theorem atP_rngC : ∀ (n : Nat) (lo c : Int) (i : Nat), atP (rngC lo c n) i = if i < n then some (.int (lo + (i : Nat) * c)) else none
  | 0, _, _, i => by simp [rngC, atP]
  | n + 1, lo, c, 0 => by simp [rngC, atP]
  | n + 1, lo, c, i + 1 => by
    simp only [rngC, atP]
    rw [atP_rngC n (lo + c) c i]
    by_cases h : i < n
    · rw [if_pos h, if_pos (by omega)]
      congr 2
      have : ((i + 1 : Nat) : Int) * c = (i : Int) * c + c := by
        rw [show ((i + 1 : Nat) : Int) = (i : Int) + 1 by omega, Int.add_mul, Int.one_mul]
      omega
    · rw [if_neg h, if_neg (by omega)]
theorem irep_rng (lo : Int) (n : Nat) : IRep K mg ι H (.st (rngL lo n)) (L2.Itr lo n) := by
  intro ι' H' st' i g R hi
  refine ⟨fun x e => ?_, fun e => ?_⟩
  · simp only [nxtA, Option.some.injEq, atP_rngL] at e
    split at e
    · rename_i h
      cases e
      refine ⟨h, fun v H2 hy => ?_⟩
      obtain ⟨rfl, rfl⟩ := hy
      exact ⟨Grow.refl _ _, R, .int _⟩
    · cases e
  · simp only [nxtA, Option.some.injEq, atP_rngL] at e
    split at e
    · cases e
    · rename_i h
      show n ≤ i
      omega
theorem irep_rngC (lo c : Int) (n : Nat) : IRep K mg ι H (.st (rngC lo c n)) (Itc lo c n) := by
  intro ι' H' st' i g R hi
  refine ⟨fun x e => ?_, fun e => ?_⟩
  · simp only [nxtA, Option.some.injEq, atP_rngC] at e
    split at e
    · rename_i h
      cases e
      refine ⟨h, fun v H2 hy => ?_⟩
      obtain ⟨rfl, rfl⟩ := hy
      exact ⟨Grow.refl _ _, R, .int _⟩
    · cases e
  · simp only [nxtA, Option.some.injEq, atP_rngC] at e
    split at e
    · cases e
    · rename_i h
      show n ≤ i
      omega
/-! ### enumerate -/
theorem atP_enmL : ∀ (xs : List PV) (k i : Nat), atP (enmL k xs) i = (atP xs i).map fun x => .tup [.int ((k + i : Nat) : Int), x]
  | [], k, i => by simp [enmL, atP]
  | x :: r, k, 0 => by simp [enmL, atP]
  | x :: r, k, i + 1 => by
    simp only [enmL, atP]
    rw [atP_enmL r (k + 1) i]
    congr 2
    funext y
    rw [show k + 1 + i = k + (i + 1) by omega]
theorem irep_enT {a : Addr} {xs : List PV} {vs : List V} {st : Store} (R0 : Rel K mg ι H st) (hs : Reps K mg ι H xs vs) (hq : SqT K H a vs) : IRep K mg ι H (.st (enmL 0 xs)) (IteT K a) := by
  intro ι' H' st' i g R hi
  have hq' := R0.seqT g hq
  have hs' := hs.grow R0 g
  have len : ∀ (xs : List PV) (k : Nat), (enmL k xs).length = xs.length := by
    intro xs
    induction xs with
    | nil => intro k; rfl
    | cons x r ih => intro k; simp [enmL, ih]
  refine ⟨fun x e => ?_, fun e => ?_⟩
  · simp only [nxtA, Option.some.injEq, atP_enmL] at e
    cases e2 : atP xs i with
    | none => rw [e2] at e; cases e
    | some y =>
      rw [e2] at e
      cases e
      obtain ⟨v, hv, rv⟩ := hs'.get e2
      refine ⟨⟨vs, v, hq', hv⟩, fun u H2 hy => ?_⟩
      obtain ⟨T, z, rfl, hT, rfl, hy⟩ := hy
      have ez := hy vs hq'
      rw [hv] at ez
      cases ez
      have gg : Grow ι' H' ι' (upd H' T (.tup [.int (i : Nat), v])) := Grow.lay hT
      refine ⟨gg, R.lay hT, .tup (.inl (.inl upd_same)) (.cons ?_ (.cons (rv.grow R gg) .nil))⟩
      rw [Nat.zero_add]
      exact .int _
  · simp only [nxtA, Option.some.injEq, atP_enmL] at e
    refine ⟨vs, hq', ?_⟩
    have e2 : atP xs i = none := by
      cases h : atP xs i with
      | none => rfl
      | some y => rw [h] at e; cases e
    rw [atP_get, List.getElem?_eq_none_iff] at e2
    simp only [inB, len] at hi
    rw [← hs'.length]
    omega
theorem irep_enL {a : Addr} {xs : List PV} {vs : List V} {st : Store} (R0 : Rel K mg ι H st) (hs : Reps K mg ι H xs vs) (hq : ∀ ι' H', Grow ι H ι' H' → SqL K H' a vs) : IRep K mg ι H (.st (enmL 0 xs)) (Ite K a) := by
  intro ι' H' st' i g R hi
  have hq' := hq _ _ g
  have hs' := hs.grow R0 g
  refine ⟨fun x e => ?_, fun e => ?_⟩
  · simp only [nxtA, Option.some.injEq, atP_enmL] at e
    cases e2 : atP xs i with
    | none => rw [e2] at e; cases e
    | some y =>
      rw [e2] at e
      cases e
      obtain ⟨v, hv, rv⟩ := hs'.get e2
      refine ⟨⟨vs, v, hq', hv⟩, fun u H2 hy => ?_⟩
      obtain ⟨T, z, rfl, hT, rfl, hy⟩ := hy
      have ez := hy vs hq'
      rw [hv] at ez
      cases ez
      have gg : Grow ι' H' ι' (upd H' T (.tup [.int (i : Nat), v])) := Grow.lay hT
      refine ⟨gg, R.lay hT, .tup (.inl (.inl upd_same)) (.cons ?_ (.cons (rv.grow R gg) .nil))⟩
      rw [Nat.zero_add]
      exact .int _
  · simp only [nxtA, Option.some.injEq, atP_enmL] at e
    refine ⟨vs, hq', ?_⟩
    have e2 : atP xs i = none := by
      cases h : atP xs i with
      | none => rfl
      | some y => rw [h] at e; cases e
    rw [atP_get, List.getElem?_eq_none_iff] at e2
    rw [← hs'.length]
    exact e2
theorem irep_enO {n : Nat} {a : Addr} (e : ι[n]? = some a) : IRep K mg ι H (.en n) (Ite K a) := by
  intro ι' H' st' i g R _
  have e' := g.get e
  obtain ⟨o, ho, hr⟩ := R.obj n a e'
  refine ⟨fun x en => ?_, fun en => ?_⟩
  · simp only [nxtA, nxtI, ho] at en
    cases o with
    | dct kvs => cases en
    | lst ys =>
      simp only at en
      obtain ⟨vs, h1, r1⟩ := hr
      cases e2 : atP ys i with
      | none => rw [e2] at en; cases en
      | some y =>
        rw [e2] at en
        cases en
        obtain ⟨v, hv, rv⟩ := r1.get e2
        refine ⟨⟨vs, v, SqL.of h1, hv⟩, fun u H2 hy => ?_⟩
        obtain ⟨T, z, rfl, hT, rfl, hy⟩ := hy
        have ez := hy vs (SqL.of h1)
        rw [hv] at ez
        cases ez
        have gg : Grow ι' H' ι' (upd H' T (.tup [.int (i : Nat), v])) := Grow.lay hT
        exact ⟨gg, R.lay hT, .tup (.inl (.inl upd_same)) (.cons (.int _) (.cons (rv.grow R gg) .nil))⟩
  · simp only [nxtA, nxtI, ho] at en
    cases o with
    | dct kvs => cases en
    | lst ys =>
      simp only at en
      obtain ⟨vs, h1, r1⟩ := hr
      cases e2 : atP ys i with
      | some y => rw [e2] at en; cases en
      | none =>
        refine ⟨vs, SqL.of h1, ?_⟩
        rw [atP_get, List.getElem?_eq_none_iff] at e2
        rw [← r1.length]
        exact e2
/-! ### zip of tuples -/
theorem atP_zipL : ∀ (xs ys : List PV) (i : Nat), atP (zipL xs ys) i = match atP xs i, atP ys i with
    | some x, some y => some (.tup [x, y])
    | _, _ => none
  | [], ys, i => by simp [zipL, atP]
  | x :: r, [], i => by
    simp only [zipL, atP]
    cases h : atP (x :: r) i <;> rfl
  | x :: r, y :: q, 0 => by simp [zipL, atP]
  | x :: r, y :: q, i + 1 => by
    simp only [zipL, atP]
    exact atP_zipL r q i
theorem irep_zip {a b : Addr} {xs ys : List PV} {vs ws : List V} {st : Store} (R0 : Rel K mg ι H st) (hs : Reps K mg ι H xs vs) (hq : SqT K H a vs) (hs2 : Reps K mg ι H ys ws) (hq2 : SqT K H b ws) : IRep K mg ι H (.st (zipL xs ys)) (RZ.ItzT K a b) := by
  intro ι' H' st' i g R hi
  have hq' := R0.seqT g hq
  have hs' := hs.grow R0 g
  have hq2' := R0.seqT g hq2
  have hs2' := hs2.grow R0 g
  refine ⟨fun x e => ?_, fun e => ?_⟩
  · simp only [nxtA, Option.some.injEq, atP_zipL] at e
    cases e2 : atP xs i with
    | none => rw [e2] at e; cases e
    | some x1 =>
      rw [e2] at e
      cases e3 : atP ys i with
      | none => rw [e3] at e; cases e
      | some y1 =>
        rw [e3] at e
        cases e
        obtain ⟨v, hv, rv⟩ := hs'.get e2
        obtain ⟨w, hw, rw⟩ := hs2'.get e3
        refine ⟨⟨vs, ws, v, w, hq', hq2', hv, hw⟩, fun u H2 hy => ?_⟩
        obtain ⟨T, z1, z2, rfl, hT, rfl, hy1, hy2⟩ := hy
        have ez := hy1 vs hq'
        rw [hv] at ez
        cases ez
        have ez := hy2 ws hq2'
        rw [hw] at ez
        cases ez
        have gg : Grow ι' H' ι' (upd H' T (.tup [v, w])) := Grow.lay hT
        exact ⟨gg, R.lay hT, .tup (.inl (.inl upd_same)) (.cons (rv.grow R gg) (.cons (rw.grow R gg) .nil))⟩
  · simp only [nxtA, Option.some.injEq, atP_zipL] at e
    refine ⟨vs, ws, hq', hq2', ?_⟩
    rw [← hs'.length, ← hs2'.length]
    cases e2 : atP xs i with
    | none =>
      rw [atP_get, List.getElem?_eq_none_iff] at e2
      exact .inl e2
    | some x1 =>
      rw [e2] at e
      cases e3 : atP ys i with
      | none =>
        rw [atP_get, List.getElem?_eq_none_iff] at e3
        exact .inr e3
      | some y1 => rw [e3] at e; cases e
end
section
variable {X : Cx} {W : WX} {tg e e2 a b c : Expr} {m ma mb mc : Env → Store → Res PV} {mq mr : Env → Store → Res (Src × List PV)} {pos p tpos : Pos}
theorem bigI_ok {i : Int} (h : bigI i = true) : -(2 ^ 62) ≤ i ∧ i < 2 ^ 62 := by
  unfold bigI at h
  simp only [Bool.and_eq_true, decide_eq_true_eq] at h
  omega
theorem si_rng1 (hg : Gl X "range") (hm : X.mg "range" = none) (ha : SE X W a ma) (hs : isStar a = false) : SI X W tg (.Call (.Name "range" p) [a] [] pos) (fun env st => (ma env st).bind fun x st1 => match x with
    | .int j => if bigI j then .ok (.st (rngL 0 j.toNat)) st1 else .stuck
    | _ => .stuck) := by
  refine (pi_range1 hg hm (pa_one ha hs) (starEach_cons hs)).imp fun σ H R h => ?_
  obtain ⟨ι, env, st, S, R0, p⟩ := h
  refine ⟨ι, env, st, S, R0, p.bind fun ι1 px st1 v H1 g1 R1 rx p1 => ?_⟩
  split at p1
  · split at p1
    · rename_i hb
      cases rx
      obtain ⟨h1, h2⟩ := bigI_ok hb
      exact ⟨_, rfl, h1, h2, p1.here R1 (irep_rng _ _)⟩
    · exact p1.elim
  · exact p1.elim
theorem si_rng2 (hg : Gl X "range") (hm : X.mg "range" = none) (ha : SE X W a ma) (hb : SE X W b mb) (hs : isStar a = false) (hs2 : isStar b = false) : SI X W tg (.Call (.Name "range" p) [a, b] [] pos) (fun env st => (ma env st).bind fun x st1 => (mb env st1).bind fun y st2 => match x, y with
    | .int i, .int j => if bigI i && bigI j then .ok (.st (rngL i (j - i).toNat)) st2 else .stuck
    | _, _ => .stuck) := by
  refine (pi_range2 hg hm (pa_cons ha (pa_one hb hs2) (starEach_cons hs)) (by rw [starEach_cons hs, starEach_cons hs2]; rfl) (starEach_cons hs2)).imp fun σ H R h => ?_
  obtain ⟨ι, env, st, S, R0, p⟩ := h
  refine ⟨ι, env, st, S, R0, p.bind fun ι1 px st1 v H1 g1 R1 rx p1 => ?_⟩
  refine ⟨ι1, env, st1, S.grow R0 g1, R1, p1.bind fun ι2 py st2 w H2 g2 R2 ry p2 => ?_⟩
  split at p2
  · split at p2
    · rename_i hb
      cases rx
      cases ry
      simp only [Bool.and_eq_true] at hb
      obtain ⟨h1, h2⟩ := bigI_ok hb.1
      obtain ⟨h3, h4⟩ := bigI_ok hb.2
      exact ⟨_, _, rfl, ⟨h1, h2, h3, h4⟩, p2.here R2 (irep_rng _ _)⟩
    · exact p2.elim
  · exact p2.elim
theorem si_rng3 (hg : Gl X "range") (hm : X.mg "range" = none) (ha : SE X W a ma) (hb : SE X W b mb) (hc : SE X W c mc) (hs : isStar a = false) (hs2 : isStar b = false) (hs3 : isStar c = false) : SI X W tg (.Call (.Name "range" p) [a, b, c] [] pos) (fun env st => (ma env st).bind fun x st1 => (mb env st1).bind fun y st2 => (mc env st2).bind fun z st3 => match x, y, z with
    | .int i, .int j, .int k => if decide (k ≠ 0) && decide (k.natAbs < 1073741824) && (Builtin.Range.small i j k && decide (0 ≤ Builtin.Range.rangeSize i j k)) then .ok (.st (rngC i k (Builtin.Range.rangeSize i j k).toNat)) st3 else .stuck
    | _, _, _ => .stuck) := by
  refine (pi_range3 hg hm (pa_cons ha (pa_cons hb (pa_one hc hs3) (starEach_cons hs2)) (starEach_cons hs)) (starEach_cons hs) (noStar_any (by simp [noStar, hs2, hs3]))).imp fun σ H R h => ?_
  obtain ⟨ι, env, st, S, R0, p⟩ := h
  refine ⟨ι, env, st, S, R0, p.bind fun ι1 px st1 v H1 g1 R1 rx p1 => ?_⟩
  refine ⟨ι1, env, st1, S.grow R0 g1, R1, p1.bind fun ι2 py st2 w H2 g2 R2 ry p2 => ?_⟩
  refine ⟨ι2, env, st2, (S.grow R0 g1).grow R1 g2, R2, p2.bind fun ι3 pz st3 u H3 g3 R3 rz p3 => ?_⟩
  split at p3
  · split at p3
    · rename_i hb
      cases rx
      cases ry
      cases rz
      simp only [Bool.and_eq_true, decide_eq_true_eq] at hb
      refine ⟨_, _, _, _, rfl, ⟨hb.1.1, hb.1.2, hb.2.1, ?_⟩, p3.here R3 (irep_rngC _ _ _)⟩
      omega
    · exact p3.elim
  · exact p3.elim
/-- enumerate of a list or a tuple -/
theorem pi_enumA {t : TE} {elts : List Expr} {kk : Nat} (hg : Gl X "enumerate") (hm : X.mg "enumerate" = none) (h : PE X e t) (hs : isStar e = false) :
    PI X (.Tuple elts kk tpos) (.Call (.Name "enumerate" p) [e] [] pos) (fun σ H R => t σ H fun x H1 => ∃ a, x = .ref a ∧ (((∃ xs, SqL X.K H1 a xs) ∧ R (Ite X.K a) H1) ∨ ((∃ xs, SqT X.K H1 a xs) ∧ R (IteT X.K a) H1))) := by
  refine ⟨fun pins s σ H R I q => ?_⟩
  refine PyProof.Rows.Call_ (ld_blt I hg hm PyProof.Rows.boot_enumerate (PyProof.Rows.callWith_type1 (thn ((pa_one h hs).run pos pins s σ H
    (fun vs H1 => ∃ a, vs = [.ref a] ∧ (((∃ xs, SqL X.K H1 a xs) ∧ R (Ite X.K a) H1) ∨ ((∃ xs, SqT X.K H1 a xs) ∧ R (IteT X.K a) H1))) I ?_) fun us s1 hv => ?_) (starEach_cons hs) rfl))
  · have mono : ∀ (Q Q' : VK), (∀ v H1, Q v H1 → Q' v H1) → True := fun _ _ _ => trivial
    have ee : (fun (x : V) (H1 : Hp) => ∃ a, x = .ref a ∧ (((∃ xs, SqL X.K H1 a xs) ∧ R (Ite X.K a) H1) ∨ ((∃ xs, SqT X.K H1 a xs) ∧ R (IteT X.K a) H1))) =
        fun v H1 => ∃ a, [v] = [V.ref a] ∧ (((∃ xs, SqL X.K H1 a xs) ∧ R (Ite X.K a) H1) ∨ ((∃ xs, SqT X.K H1 a xs) ∧ R (IteT X.K a) H1)) := by
      funext x H1
      simp
    rw [ee] at q
    exact q
  · obtain ⟨vs, H1, I1, rv, a, rfl, hq⟩ := hv
    obtain ⟨u, rfl, ru⟩ := vals1 rv
    obtain rfl : u = Value.ref a := ru
    have fin : ∀ h', (∀ z o, s1.heap.get? z = some o → h'.get? z = some o) → Inv X pins σ H1 { s1 with heap := h' } := fun h' hk => I1.kept (t' := s1.toks) hk
    have fp : ∀ z ∈ [s1.heap.objs.size + 1, s1.heap.objs.size], FpOk X pins H1 z := fun z hz => by
      have hle : s1.heap.objs.size ≤ z := by
        rcases List.mem_cons.mp hz with w | w
        · rw [w]; exact Nat.le_succ _
        · have w' : z = s1.heap.objs.size := by simpa using w
          rw [w']; exact Nat.le_refl _
      exact I1.fpOk hle (I1.hok.fresh hle)
    rcases hq with ⟨⟨xs, hl⟩, q⟩ | ⟨⟨xs, ht⟩, q⟩
    · obtain ⟨its, rv, pl, hz⟩ := I1.list hl
      refine call_enumerate_list pl.isList fun h' en hit hsz hk => wpAny_pyIter_enum en ?_
      exact ⟨_, _, _, _, H1, rfl, fin h' hk, turn_enum a _ s1.heap.objs.size, ⟨⟨.none, en⟩, hit, Nat.succ_ne_self _⟩, fp, q⟩
    · obtain ⟨its, rv, tp, hz⟩ := I1.tuple ht
      have tp' : s1.heap.IsTuple a its.toArray := tp
      have lt : a < s1.heap.objs.size := by
        obtain ⟨o, ho, _⟩ := tp'
        exact Heap.lt_size ho
      refine call_enumT tp' fun h' en hit hk => wpAny_pyIter_enum en ?_
      exact ⟨_, _, _, _, H1, rfl, fin h' hk, turn_enumT a _ s1.heap.objs.size (Nat.ne_of_lt (Nat.lt_succ_of_lt lt)) (Nat.ne_of_lt lt), ⟨⟨.none, en⟩, hit, Nat.succ_ne_self _⟩, fp, q⟩
theorem si_enm {elts : List Expr} {kk : Nat} (hg : Gl X "enumerate") (hm : X.mg "enumerate" = none) (h : SQ X W e mq) (hs : isStar e = false) :
    SI X W (.Tuple elts kk tpos) (.Call (.Name "enumerate" p) [e] [] pos) (fun env st => (mq env st).bind fun q st1 => .ok (enmI q) st1) := by
  refine (pi_enumA hg hm h hs).imp fun σ H R h => ?_
  obtain ⟨ι, env, st, S, R0, p⟩ := h
  refine ⟨ι, env, st, S, R0, p.bind fun ι1 q st1 v H1 g1 R1 rx p1 => ?_⟩
  obtain ⟨src, xs⟩ := q
  obtain ⟨a, vs, rfl, rs, hq⟩ := rx
  refine ⟨a, rfl, ?_⟩
  cases src with
  | tup => exact .inr ⟨⟨vs, hq⟩, p1.here R1 (irep_enT R1 rs hq)⟩
  | tmp => exact .inl ⟨⟨vs, SqL.of hq.1⟩, p1.here R1 (irep_enL R1 rs fun ι' H' g => SqL.of (g.ext _ _ hq.1 hq.2.1))⟩
  | obj n => exact .inl ⟨⟨vs, SqL.of hq.2.2⟩, p1.here R1 (irep_enO hq.1)⟩
  | rol =>
    have hq : SqR X.K H1 a vs := hq
    exact .inl ⟨⟨vs, hq.sqL⟩, p1.here R1 (irep_enL R1 rs fun ι' H' g => (SqR.grow R1 g hq).sqL)⟩
theorem si_zip {elts : List Expr} {kk : Nat} (hg : Gl X "zip") (hm : X.mg "zip" = none) (h : SQ X W e mq) (h2 : SQ X W e2 mr) (hs : isStar e = false) (hs2 : isStar e2 = false) :
    SI X W (.Tuple elts kk tpos) (.Call (.Name "zip" p) [e, e2] [] pos) (fun env st => (mq env st).bind fun q st1 => (mr env st1).bind fun r st2 => match q.1, r.1 with
      | .tup, .tup => .ok (.st (zipL q.2 r.2)) st2
      | _, _ => .stuck) := by
  refine (RZ.pi_zipA hg hm (pa_cons h (pa_one h2 hs2) (starEach_cons hs)) (starEach_cons hs) (noStar_any (by simp [noStar, hs2]))).imp fun σ H R h => ?_
  obtain ⟨ι, env, st, S, R0, p⟩ := h
  refine ⟨ι, env, st, S, R0, p.bind fun ι1 q st1 v H1 g1 R1 rx p1 => ?_⟩
  refine ⟨ι1, env, st1, S.grow R0 g1, R1, p1.bind fun ι2 r st2 w H2 g2 R2 ry p2 => ?_⟩
  obtain ⟨src, xs⟩ := q
  obtain ⟨src2, ys⟩ := r
  simp only at p2
  split at p2
  · obtain ⟨a, vs, rfl, rs, hq⟩ := rx
    obtain ⟨b, ws, rfl, rs2, hq2⟩ := ry
    refine ⟨a, b, vs, ws, rfl, .inr ⟨R1.seqT g2 hq, hq2, p2.here R2 (irep_zip R2 (Reps.grow R1 g2 rs) (R1.seqT g2 hq) rs2 hq2)⟩⟩
  · exact p2.elim
end
end Ev

namespace Ev
open PySem PySem.Spec L2

abbrev W0 : WX := fun _ _ _ _ => False
section
variable {K : PySem.W.Frag} {mg : Str → Option Value} {ι : List Addr} {H : Hp} {st : Store} {D : Addr}
-- what lies beside the list that is being made
mutual
theorem Rep.beside {us vs : List V} (hD : H D = some (.lst us)) : ∀ {x : PV} {v : V}, Rep K mg ι H x v → Rep K mg ι (upd H D (.lst vs)) x v
  | _, _, .non => .non
  | _, _, .bl b => .bl b
  | _, _, .int i => .int i
  | _, _, .str x => .str x
  | _, _, .tup h hs => .tup (by
      rcases h with (h | ⟨o, h⟩) | h
      · exact .inl (.inl (by rw [upd_ne (ne_of h hD (by intro z; cases z))]; exact h))
      · exact .inl (.inr ⟨o, by rw [upd_ne (ne_of h hD (by intro z; cases z))]; exact h⟩)
      · exact .inr h) (Reps.beside hD hs)
  | _, _, .obj h => .obj h
  | _, _, .ty t => .ty t
  | _, _, .glo h => .glo h
  | _, _, .rol h hs => .rol (by
      rcases h with ⟨o, h⟩ | h
      · exact .inl ⟨o, by rw [upd_ne (ne_of h hD (by intro z; cases z))]; exact h⟩
      · exact .inr h) (Reps.beside hD hs)
  | _, _, .shw d => .shw d
theorem Reps.beside {us vs : List V} (hD : H D = some (.lst us)) : ∀ {xs : List PV} {ws : List V}, Reps K mg ι H xs ws → Reps K mg ι (upd H D (.lst vs)) xs ws
  | _, _, .nil => .nil
  | _, _, .cons h hs => .cons (Rep.beside hD h) (Reps.beside hD hs)
end
theorem Rel.beside (R : Rel K mg ι H st) {us vs : List V} (hD : H D = some (.lst us)) (hn : D ∉ ι) : Rel K mg ι (upd H D (.lst vs)) st :=
  ⟨R.len, R.nd, fun n a e => by
    obtain ⟨o, h1, h2⟩ := R.obj n a e
    have ne : a ≠ D := fun z => hn (z ▸ List.mem_of_getElem? e)
    refine ⟨o, h1, ?_⟩
    cases o with
    | lst xs => obtain ⟨ws, a1, a2⟩ := h2; exact ⟨ws, by rw [upd_ne ne]; exact a1, a2.beside hD⟩
    | dct kvs => obtain ⟨ws, a1, a2, a3⟩ := h2; exact ⟨ws, by rw [upd_ne ne]; exact a1, a2, a3.beside hD⟩, R.out⟩
theorem Grow.beside {ι0 : List Addr} {H0 : Hp} (g : Grow ι0 H0 ι H) (h0 : H0 D = none) (o : HO) : Grow ι0 H0 ι (upd H D o) :=
  ⟨g.pre, g.new, fun b u e hb => by
    rw [upd_ne (ne_of_none e h0)]
    exact g.ext b u e hb⟩
theorem bind_assoc {α β γ : Type} (r : Res α) (f : α → Store → Res β) (g : β → Store → Res γ) : (r.bind f).bind g = r.bind fun a s => (f a s).bind g := by
  cases r <;> rfl
/-- behind a part that raises nothing, the start kept -/
theorem Post.bindX {α β γ δ : Type} {k1 : Kd K mg α β} {k2 : Kd K mg γ δ} {W : WX} {σ σ' : St} {ι0 : List Addr} {H0 : Hp} {Q : δ → Hp → Prop} {Q' : β → Hp → Prop} {r : Res α} {f : α → Store → Res γ} (p : Post k2 W σ ι0 H0 Q ((noX r).bind f))
    (hk : ∀ ι1 a st1 b H1, Grow ι H ι1 H1 → Rel K mg ι1 H1 st1 → k1.rr H ι1 H1 st1 a b → Post k2 W σ ι0 H0 Q (f a st1) → Q' b H1) : Post k1 W0 σ' ι H Q' r := by
  cases r with
  | ok a s => exact fun b ι1 H1 g R h => hk ι1 a s b H1 g R h p
  | exc x s => exact p.elim
  | stuck => exact p.elim
theorem post_noX {α β : Type} {k : Kd K mg α β} {W : WX} {σ : St} {Q : β → Hp → Prop} {r : Res α} (p : Post k W σ ι H Q (noX r)) (σ' : St) : Post k W0 σ' ι H Q r := by
  cases r with
  | ok a s => exact p
  | exc x s => exact p.elim
  | stuck => exact p.elim
end

section
variable {X : Cx} {W : WX}
/-- the state of a comprehension behind some turns: acc reversed is what the list at D holds -/
def CompAt (K : PySem.W.Frag) (mg : Str → Option Value) (ι1 : List Addr) (H1 : Hp) (D : Addr) (env : Env) (σ : St) (acc : List PV) (ι : List Addr) (H : Hp) (st : Store) : Prop :=
  Grow ι1 H1 ι H ∧ Rel K mg ι H st ∧ D ∉ ι ∧ RelS K mg ι H env σ ∧ ∃ vs, H D = some (.lst vs) ∧ Reps K mg ι H acc.reverse vs
/-- what follows a comprehension -/
def CompTo (K : PySem.W.Frag) (mg : Str → Option Value) (W : WX) (σ : St) (ι1 : List Addr) (H1 : Hp) (Q : VK) (r : Res (List PV)) : Prop := Post (kL (K := K) (mg := mg)) W σ ι1 H1 Q (r.bind compEnd)
theorem CompTo.ok {K : PySem.W.Frag} {mg : Str → Option Value} {W : WX} {σ σ' : St} {ι1 ι : List Addr} {H1 H : Hp} {Q : VK} {acc : List PV} {st : Store} {D : Addr} {env : Env} (h0 : H1 D = none) (p : CompTo K mg W σ ι1 H1 Q (.ok acc st)) (c : CompAt K mg ι1 H1 D env σ' acc ι H st) : Q (.ref D) H := by
  obtain ⟨g, R, hD, S, vs, h1, r1⟩ := c
  exact p (.ref D) ι H g R ⟨D, vs, rfl, r1, h1, hD, h0⟩
/-- one turn -/
theorem comp_turn {g : TG} {is : List Nat} {one : Bool} {own : List Nat} {tt : TT} {mt : Env → Store → Res Bool} {me : Env → Store → Res PV} (hg : g = gEv X.K X.mg one is) (htt : ∀ σ H Q, Rd (kB (K := X.K) (mg := X.mg)) W0 mt σ H Q → tt σ H Q) (hsub : ∀ i ∈ is, i ∈ own)
    {σ : St} {env : Env} {ι1 ι : List Addr} {H1 H : Hp} {D : Addr} {acc : List PV} {st : Store} {x : PV} {v : V} {Q : VK} {k : List PV → Store → Res (List PV)} (h0 : H1 D = none)
    (c : CompAt X.K X.mg ι1 H1 D (wipeS env own) (wipe σ own) acc ι H st) (rx : Rep X.K X.mg ι H x v) (p : CompTo X.K X.mg W σ ι1 H1 Q ((compTurn1 is one mt me (wipeS env own) x acc st).bind k))
    (Nx : Hp → Prop) (hN : ∀ acc' ι' H' st', CompAt X.K X.mg ι1 H1 D (wipeS env own) (wipe σ own) acc' ι' H' st' → acc'.length ≤ acc.length + 1 → CompTo X.K X.mg W σ ι1 H1 Q (k acc' st') → Nx H') (hsz : acc.length < sizeLine) :
    g v (wipe σ own) H fun σ2 H2 => wipe σ2 own = wipe σ own ∧ tt σ2 H2 fun b H3 => if b = true then Rd (kE (K := X.K) (mg := X.mg)) W0 me σ2 H3 fun y H4 => ∃ ac, H4 D = some (.lst ac) ∧ ac.length < sizeLine ∧ Nx (upd H4 D (.lst (ac ++ [y]))) else Nx H3 := by
  obtain ⟨g1, R, hD, S, vs, hv, rv⟩ := c
  subst hg
  unfold compTurn1 at p
  cases eb : bindT one is x (wipeS env own) with
  | none => rw [eb] at p; exact p.elim
  | some env' =>
    rw [eb] at p
    simp only at p
    refine ⟨ι, st, _, x, env', R, S, rx, eb, fun σ' S' w' => ⟨?_, ?_⟩⟩
    · rw [w' own hsub]
      exact wipe_idem σ own own fun _ h => h
    · -- the test
      unfold CompTo at p
      rw [bind_assoc, bind_assoc] at p
      refine htt _ _ _ ⟨ι, env', st, S', R, Post.bindX p fun ι2 b st2 b' H3 g2 R2 e p2 => ?_⟩
      have e' : b = b' := e
      subst e'
      have keepD : H3 D = some (.lst vs) := g2.ext _ _ hv hD
      have nD : D ∉ ι2 := fun z => by
        rcases g2.new D z with w | w
        · exact hD w
        · rw [hv] at w; cases w
      cases b with
      | false =>
        rw [if_neg Bool.false_ne_true]
        exact hN acc ι2 H3 st2 ⟨g1.trans g2, R2, nD, S.grow R g2, vs, keepD, rv.grow R g2⟩ (Nat.le_succ _) p2
      | true =>
        rw [if_pos rfl]
        simp only at p2
        rw [bind_assoc] at p2
        refine ⟨ι2, env', st2, S'.grow R g2, R2, Post.bindX p2 fun ι3 w st3 y H4 g3 R3 rw p3 => ?_⟩
        have rw' : Rep X.K X.mg ι3 H4 w y := rw
        have keepD' : H4 D = some (.lst vs) := g3.ext _ _ keepD nD
        have nD' : D ∉ ι3 := fun z => by
          rcases g3.new D z with w | w
          · exact nD w
          · rw [keepD] at w; cases w
        have gg : Grow ι1 H1 ι3 H4 := (g1.trans g2).trans g3
        have rs : Reps X.K X.mg ι3 H4 acc.reverse vs := (rv.grow R g2).grow R2 g3
        refine ⟨vs, keepD', ?_, hN (w :: acc) ι3 _ st3 ⟨gg.beside h0 _, R3.beside keepD' nD', nD', ?_, vs ++ [y], upd_same, ?_⟩ (by simp) p3⟩
        · rw [← rs.length, List.length_reverse]
          exact hsz
        · have S3 := (S.grow R g2).grow R2 g3
          exact ⟨S3.len, fun i z e => by
            obtain ⟨u, a1, a2⟩ := S3.get i z e
            exact ⟨u, a1, a2.beside keepD'⟩⟩
        · rw [List.reverse_cons]
          exact Reps.append (rs.beside keepD') (.cons (rw'.beside keepD') .nil)
theorem goO_step {turn : PV → List PV → Store → Res (List PV)} {j : Itr} {K : PySem.W.Frag} {mg : Str → Option Value} {σ : St} {ι1 : List Addr} {H1 : Hp} {Q : VK} {i : Nat} {acc : List PV} {st : Store} (hj : ∀ {k s}, nxtA j k s = nxtI j k s) (hb : inB j i)
    (pg : CompTo K mg W σ ι1 H1 Q (compGoO turn j (16777216 - i) i acc st)) : inB j i ∧ ∃ o, nxtA j i st = some o ∧ (match o with
          | none => CompTo K mg W σ ι1 H1 Q (.ok acc st)
          | some x => i < 16777216 ∧ i + 1 ≤ 16777216 ∧ CompTo K mg W σ ι1 H1 Q ((turn x acc st).bind fun acc' st' => compGoO turn j (16777216 - (i + 1)) (i + 1) acc' st')) := by
  refine ⟨hb, ?_⟩
  cases hf : 16777216 - i with
  | zero => rw [hf] at pg; exact pg.elim
  | succ f =>
    rw [hf] at pg
    unfold compGoO at pg
    rw [hj]
    cases hn : nxtI j i st with
    | none => rw [hn] at pg; exact pg.elim
    | some o =>
      rw [hn] at pg
      refine ⟨o, rfl, ?_⟩
      cases o with
      | none => exact pg
      | some x =>
        refine ⟨by omega, by omega, ?_⟩
        have e : 16777216 - (i + 1) = f := by omega
        rw [e]
        exact pg
/-- all turns -/
theorem comp_all {wi : TI} {is : List Nat} {one : Bool} {own : List Nat} {tt : TT} {mI : Env → Store → Res Itr} {mt : Env → Store → Res Bool} {me : Env → Store → Res PV} (htt : ∀ σ H Q, Rd (kB (K := X.K) (mg := X.mg)) W0 mt σ H Q → tt σ H Q) (hsub : ∀ i ∈ is, i ∈ own)
    (hwi : ∀ σ H Q, (∃ ι env st, RelS X.K X.mg ι H env σ ∧ Rel X.K X.mg ι H st ∧ PostI (K := X.K) (mg := X.mg) W σ ι H Q (mI env st)) → wi σ H Q) {σ : St} {H : Hp} {Q : VK}
    (h : Rd (kL (K := X.K) (mg := X.mg)) W (fun env st => (mI env st).bind fun j st1 => (compAll (compTurn1 is one mt me (wipeS env own)) j st1).bind compEnd) σ H Q) :
    tLc wi (gEv X.K X.mg one is) tt (fun σ H Q => Rd (kE (K := X.K) (mg := X.mg)) W0 me σ H Q) own σ H Q := by
  obtain ⟨ι, env, st, S, R, p⟩ := h
  refine hwi σ H _ ⟨ι, env, st, S, R, ?_⟩
  dsimp only at p
  generalize mI env st = r at p
  cases r with
  | stuck => exact p
  | exc x s => exact p
  | ok j st1 =>
    intro J ι1 H1 g1 R1 ij D hD
    have p1 : CompTo X.K X.mg W σ ι1 H1 Q (compAll (compTurn1 is one mt me (wipeS env own)) j st1) := by
      have := Post.grow (k := kL (K := X.K) (mg := X.mg)) p g1 R1
      exact this
    have hDn : D ∉ ι1 := R1.fresh hD
    have S1 : RelS X.K X.mg ι1 H1 (wipeS env own) (wipe σ own) := (S.grow R g1).wipe own
    have gl : Grow ι1 H1 ι1 (upd H1 D (.lst [])) := Grow.lay hD
    have c0 : CompAt X.K X.mg ι1 H1 D (wipeS env own) (wipe σ own) [] ι1 (upd H1 D (.lst [])) st1 := ⟨gl, R1.lay hD, hDn, S1.grow R1 gl, [], upd_same, .nil⟩
    unfold compAll at p1
    have main : ∀ (go : Nat → List PV → Store → Res (List PV)) (fuel : Nat) (lim : Nat → Prop), (∀ i, lim i → i < fuel → i < sizeLine) → lim 0 →
        (∀ i acc st, lim i → CompTo X.K X.mg W σ ι1 H1 Q (go i acc st) → inB j i ∧ ∃ o, nxtA j i st = some o ∧ (match o with
          | none => CompTo X.K X.mg W σ ι1 H1 Q (.ok acc st)
          | some x => i < fuel ∧ lim (i + 1) ∧ CompTo X.K X.mg W σ ι1 H1 Q ((compTurn1 is one mt me (wipeS env own) x acc st).bind fun acc' st' => go (i + 1) acc' st'))) →
        CompTo X.K X.mg W σ ι1 H1 Q (go 0 [] st1) →
        ∃ Wn : Nat → Nat → Hp → Prop, (∃ m, Wn 0 m (upd H1 D (.lst []))) ∧ ∀ i m H, Wn i m H → (J.stop i H ∧ Q (.ref D) H) ∨ (J.go i H ∧ ∃ Nx : Hp → Prop, (∀ H', Nx H' → ∃ m', m' < m ∧ Wn (i + 1) m' H') ∧ ∀ x H', J.yld i H x H' → gEv X.K X.mg one is x (wipe σ own) H' fun σ2 H2 => wipe σ2 own = wipe σ own ∧ tt σ2 H2 fun b H3 =>
          if b = true then Rd (kE (K := X.K) (mg := X.mg)) W0 me σ2 H3 fun y H4 => ∃ acc, H4 D = some (.lst acc) ∧ acc.length < sizeLine ∧ Nx (upd H4 D (.lst (acc ++ [y]))) else Nx H3) := by
      intro go fuel lim hlim lim0 step start
      refine ⟨fun i m H => ∃ acc ι' st', i + m = fuel + 1 ∧ lim i ∧ acc.length ≤ i ∧ CompAt X.K X.mg ι1 H1 D (wipeS env own) (wipe σ own) acc ι' H st' ∧ CompTo X.K X.mg W σ ι1 H1 Q (go i acc st'),
        ⟨fuel + 1, [], ι1, st1, by omega, lim0, Nat.le_refl _, c0, start⟩, fun i m H hw => ?_⟩
      obtain ⟨acc, ι', st', hm, hl, hlen, c, pg⟩ := hw
      obtain ⟨hb, o, ho, hk⟩ := step i acc st' hl pg
      obtain ⟨i1, i2⟩ := ij ι' H st' i c.1 c.2.1 hb
      cases o with
      | none => exact .inl ⟨i2 ho, CompTo.ok hD hk c⟩
      | some x =>
        obtain ⟨hf, hl', pk⟩ := hk
        obtain ⟨a1, a2⟩ := i1 x ho
        refine .inr ⟨a1, fun H' => ∃ acc' ι2 st2, acc'.length ≤ i + 1 ∧ CompAt X.K X.mg ι1 H1 D (wipeS env own) (wipe σ own) acc' ι2 H' st2 ∧ CompTo X.K X.mg W σ ι1 H1 Q (go (i + 1) acc' st2), fun H' hn => ?_, fun v H' hy => ?_⟩
        · obtain ⟨acc', ι2, st2, b1, b2, b3⟩ := hn
          exact ⟨m - 1, by omega, acc', ι2, st2, by omega, hl', b1, b2, b3⟩
        · obtain ⟨gy, Ry, ry⟩ := a2 v H' hy
          obtain ⟨c1, c2, c3, c4, vs, c5, c6⟩ := c
          have cy : CompAt X.K X.mg ι1 H1 D (wipeS env own) (wipe σ own) acc ι' H' st' := ⟨c1.trans gy, Ry, c3, c4.grow c2 gy, vs, gy.ext _ _ c5 c3, c6.grow c2 gy⟩
          refine comp_turn rfl htt hsub hD cy ry pk _ (fun acc' ι2 H2 st2 q1 q2 q3 => ⟨acc', ι2, st2, by omega, q1, q3⟩) ?_
          have := hlim i hl hf
          omega
    cases j with
    | st xs =>
      simp only at p1
      split at p1
      · rename_i hx
        refine main (fun i acc st => compGo (compTurn1 is one mt me (wipeS env own)) (xs.drop i) acc st) xs.length (fun i => i ≤ xs.length) (fun i hi _ => ?_) (Nat.zero_le _) (fun i acc st hi pg => ⟨hi, ?_⟩) (by simpa using p1)
        · show i < 16777216
          omega
        · refine ⟨atP xs i, rfl, ?_⟩
          by_cases hlt : i < xs.length
          · have e1 : atP xs i = some xs[i] := by rw [atP_get, List.getElem?_eq_getElem hlt]
            rw [e1]
            refine ⟨hlt, hlt, ?_⟩
            rw [List.drop_eq_getElem_cons hlt] at pg
            exact pg
          · have e1 : atP xs i = none := by rw [atP_get, List.getElem?_eq_none_iff]; omega
            rw [e1]
            have e2 : xs.drop i = [] := List.drop_eq_nil_iff.mpr (by omega)
            rw [e2] at pg
            exact pg
      · exact p1.elim
    | ob n => exact main (fun i acc st => compGoO (compTurn1 is one mt me (wipeS env own)) (.ob n) (16777216 - i) i acc st) 16777216 (fun i => i ≤ 16777216) (fun i _ hi => hi) (Nat.zero_le _) (fun i acc st hi pg => goO_step (j := .ob n) rfl trivial pg) p1
    | en n => exact main (fun i acc st => compGoO (compTurn1 is one mt me (wipeS env own)) (.en n) (16777216 - i) i acc st) 16777216 (fun i => i ≤ 16777216) (fun i _ hi => hi) (Nat.zero_le _) (fun i acc st hi pg => goO_step (j := .en n) rfl trivial pg) p1
end
end Ev

namespace Ev
open PySem PySem.Spec L2

section
variable {X : Cx} {W : WX} {pos : Pos}
/-! ### the list comprehension itself -/
theorem sts_nil {W : WX} : PTs X [] (fun σ H Q => Rd (kB (K := X.K) (mg := X.mg)) W (fun _ st => .ok true st) σ H Q) :=
  ⟨fun pins s σ H Q I h => pts_nil.run pins s σ H Q I (by
    obtain ⟨ι, env, st, S, R, p⟩ := h
    exact p.here R rfl)⟩
theorem sts_one {c : Expr} {W : WX} {m : Env → Store → Res Bool} (h : SB X W c m) : PTs X [c] (fun σ H Q => Rd (kB (K := X.K) (mg := X.mg)) W (fun env st => (m env st).bind fun k st1 => match k with
    | true => (fun _ st => .ok true st) env st1
    | false => .ok false st1) σ H Q) :=
  ⟨fun pins s σ H Q I q => (pts_one h).run pins s σ H Q I (by
    obtain ⟨ι, env, st, S, R, p⟩ := q
    refine ⟨ι, env, st, S, R, ?_⟩
    dsimp only at p
    generalize m env st = r at p ⊢
    cases r with
    | ok b s1 => cases b <;> exact p
    | exc x s1 => exact p
    | stuck => exact p)⟩
variable {elt tg iter : Expr} {ifs : List Expr} {scope : Scope} {own : List (Str × Nat)} {is : List Nat} {one : Bool} {mI : Env → Store → Res Itr} {mt : Env → Store → Res Bool} {me : Env → Store → Res PV}
theorem lc_imp (hi : SI X W tg iter mI) (hsub : ∀ i ∈ is, i ∈ own.map (·.2)) {σ : St} {H : Hp} {Q : VK}
    (h : Rd (kL (K := X.K) (mg := X.mg)) W (fun env st => (mI env st).bind fun j st1 => (compAll (compTurn1 is one mt me (wipeS env (own.map (·.2)))) j st1).bind compEnd) σ H Q) :
    tLc (fun σ H Q => ∃ ι env st, RelS X.K X.mg ι H env σ ∧ Rel X.K X.mg ι H st ∧ PostI (K := X.K) (mg := X.mg) W σ ι H Q (mI env st)) (gEv X.K X.mg one is) (fun σ H Q => Rd (kB (K := X.K) (mg := X.mg)) W0 mt σ H Q) (fun σ H Q => Rd (kE (K := X.K) (mg := X.mg)) W0 me σ H Q) (own.map (·.2)) σ H Q :=
  comp_all (fun _ _ _ h => h) hsub (fun _ _ _ h => h) h
theorem sq_comp (hc : X.calm = true) (hN : X.N.Nodup) (hi : SI X W tg iter mI) (ok : BlkOk X.N X.env.scope scope own)
    (hg : ∀ (s : Shared) (H : Hp) (C : Addr) (cl : List (Str × Addr)) (fp : List Addr), PG (X.blk s H scope (compEnvC scope cl C X.env) fp) tg (gEv X.K X.mg one is))
    (ht : ∀ (s : Shared) (H : Hp) (C : Addr) (cl : List (Str × Addr)) (fp : List Addr), PTs (X.blk s H scope (compEnvC scope cl C X.env) fp) ifs (fun σ H Q => Rd (kB (K := X.K) (mg := X.mg)) W0 mt σ H Q))
    (he : ∀ (s : Shared) (H : Hp) (C : Addr) (cl : List (Str × Addr)) (fp : List Addr), SE (X.blk s H scope (compEnvC scope cl C X.env) fp) W0 elt me) (hs : ∀ x, foldedSetIterable iter X.env x = pure x) (hsub : ∀ i ∈ is, i ∈ own.map (·.2)) :
    SQ X W (.ListComp elt [⟨tg, iter, ifs, 0⟩] scope pos) (fun env st => (mI env st).bind fun j st1 => (compAll (compTurn1 is one mt me (wipeS env (own.map (·.2)))) j st1).bind compEnd) :=
  (pe_lc (te := fun σ H Q => Rd (kE (K := X.K) (mg := X.mg)) W0 me σ H Q) hc hN hi ok hg ht he hs).imp fun σ H Q h => lc_imp hi hsub h
end

/-! ### statements -/
def SPost (K : PySem.W.Frag) (mg : Str → Option Value) (W : WX) (ι : List Addr) (H : Hp) (D : Ends) : SR → Prop
  | .nx env st => ∀ σ' ι' H', Grow ι H ι' H' → Rel K mg ι' H' st → RelS K mg ι' H' env σ' → D.nx σ' H'
  | .rt v st => ∀ x ι' H', Grow ι H ι' H' → Rel K mg ι' H' st → Rep K mg ι' H' v x → D.rt x H'
  | .bk env st => ∀ σ' ι' H', Grow ι H ι' H' → Rel K mg ι' H' st → RelS K mg ι' H' env σ' → D.bk σ' H'
  | .ct env st => ∀ σ' ι' H', Grow ι H ι' H' → Rel K mg ι' H' st → RelS K mg ι' H' env σ' → D.ct σ' H'
  | .exc x env st => ∀ cls d σ' ι' H', Grow ι H ι' H' → Rel K mg ι' H' st → RelS K mg ι' H' env σ' → RepX K mg ι' H' x cls d → W cls d σ' H'
  | .stuck => False
section
variable {K : PySem.W.Frag} {mg : Str → Option Value} {W : WX} {ι ι1 : List Addr} {H H1 : Hp} {D : Ends} {r : SR}
theorem SPost.grow (p : SPost K mg W ι H D r) (g : Grow ι H ι1 H1) : SPost K mg W ι1 H1 D r := by
  cases r with
  | nx env st => exact fun σ' ι' H' g' => p σ' ι' H' (g.trans g')
  | rt v st => exact fun x ι' H' g' => p x ι' H' (g.trans g')
  | bk env st => exact fun σ' ι' H' g' => p σ' ι' H' (g.trans g')
  | ct env st => exact fun σ' ι' H' g' => p σ' ι' H' (g.trans g')
  | exc x env st => exact fun cls d σ' ι' H' g' => p cls d σ' ι' H' (g.trans g')
  | stuck => exact p
theorem SPost.thn {α β : Type} {k1 : Kd K mg α β} {Q' : β → Hp → Prop} {q : Res α} {env : Env} {σ : St} {st : Store} {f : α → Store → SR} (S : RelS K mg ι H env σ) (R : Rel K mg ι H st) (p : SPost K mg W ι H D (q.thn env f))
    (hk : ∀ ι1 a st1 b H1, Grow ι H ι1 H1 → Rel K mg ι1 H1 st1 → RelS K mg ι1 H1 env σ → k1.rr H ι1 H1 st1 a b → SPost K mg W ι1 H1 D (f a st1) → Q' b H1) : Post k1 W σ ι H Q' q := by
  cases q with
  | ok a st1 => exact fun b ι1 H1 g R1 h => hk ι1 a st1 b H1 g R1 (S.grow R g) h (SPost.grow p g)
  | exc x st1 => exact fun cls d ι1 H1 g R1 h => p cls d σ ι1 H1 g R1 (S.grow R g) h
  | stuck => exact p
end
/-- a statement, statements: as the evaluator runs them -/
def SS (X : Cx) (W : WX) (s : Stmt) (m : Env → Store → SR) : Prop := PS X s (fun D σ H => ∃ ι env st, RelS X.K X.mg ι H env σ ∧ Rel X.K X.mg ι H st ∧ SPost X.K X.mg W ι H D (m env st))
def SSs (X : Cx) (W : WX) (s : List Stmt) (m : Env → Store → SR) : Prop := PSs X s (fun D σ H => ∃ ι env st, RelS X.K X.mg ι H env σ ∧ Rel X.K X.mg ι H st ∧ SPost X.K X.mg W ι H D (m env st))
section
variable {X : Cx} {W : WX} {pos p' : Pos} {e a b c : Expr} {m ma mb mc : Env → Store → Res PV} {st : Stmt} {rest body : List Stmt} {ms mr : Env → Store → SR} {i : Nat} {x : Str}
theorem ss_nil : SSs X W [] (fun env st => .nx env st) := pss_nil.imp fun D σ H h => by
  obtain ⟨ι, env, s, S, R, p⟩ := h
  exact p σ ι H (Grow.refl _ _) R S
theorem ss_cons (h1 : SS X W st ms) (h2 : SSs X W rest mr) : SSs X W (st :: rest) (fun env s => (ms env s).bind fun e1 s1 => mr e1 s1) := (pss_cons h1 h2).imp fun D σ H h => by
  obtain ⟨ι, env, s, S, R, p⟩ := h
  refine ⟨ι, env, s, S, R, ?_⟩
  dsimp only at p
  generalize ms env s = r at p ⊢
  cases r with
  | nx e1 s1 => exact fun σ' ι' H' g R' S' => ⟨ι', e1, s1, S', R', SPost.grow p g⟩
  | rt v s1 => exact p
  | bk e1 s1 => exact p
  | ct e1 s1 => exact p
  | exc y e1 s1 => exact p
  | stuck => exact p
theorem ss_never {W : WX} : SS X W st (fun _ _ => .stuck) := ps_never.imp fun D σ H h => by
  obtain ⟨ι, env, s, S, R, p⟩ := h
  exact p
theorem ss_pass : SS X W (.Pass pos) (fun env s => .nx env s) := ps_pass.imp fun D σ H h => by
  obtain ⟨ι, env, s, S, R, p⟩ := h
  exact p σ ι H (Grow.refl _ _) R S
theorem ss_brk : SS X W (.Break pos) (fun env s => .bk env s) := ps_break.imp fun D σ H h => by
  obtain ⟨ι, env, s, S, R, p⟩ := h
  exact p σ ι H (Grow.refl _ _) R S
theorem ss_cont : SS X W (.Continue pos) (fun env s => .ct env s) := ps_continue.imp fun D σ H h => by
  obtain ⟨ι, env, s, S, R, p⟩ := h
  exact p σ ι H (Grow.refl _ _) R S
theorem ss_retN : SS X W (.Return none pos) (fun _ s => .rt .non s) := ps_retN.imp fun D σ H h => by
  obtain ⟨ι, env, s, S, R, p⟩ := h
  exact p .non ι H (Grow.refl _ _) R .non
theorem ss_ret (he : SE X W e m) : SS X W (.Return (some e) pos) (fun env s => (m env s).thn env fun v s1 => .rt v s1) := (ps_ret he).imp fun D σ H h => by
  obtain ⟨ι, env, s, S, R, p⟩ := h
  exact ⟨ι, env, s, S, R, SPost.thn S R p fun ι1 v s1 y H1 g1 R1 S1 ry p1 => p1 y ι1 H1 (Grow.refl _ _) R1 ry⟩
theorem ss_doc {y j} : SS X W (.Expr (.Constant (.str y) j p') pos) (fun env s => (Res.ok (PV.str y) s).thn env fun _ s1 => .nx env s1) := ps_doc.imp fun D σ H h => by
  obtain ⟨ι, env, s, S, R, p⟩ := h
  exact p σ ι H (Grow.refl _ _) R S
theorem ss_expr (he : SE X W e m) (hs : swapsWith e none pos.line X.env = pure false) : SS X W (.Expr e pos) (fun env s => (m env s).thn env fun _ s1 => .nx env s1) := (ps_expr he hs).imp fun D σ H h => by
  obtain ⟨ι, env, s, S, R, p⟩ := h
  exact ⟨ι, env, s, S, R, SPost.thn S R p fun ι1 v s1 y H1 g1 R1 S1 ry p1 => p1 σ ι1 H1 (Grow.refl _ _) R1 S1⟩
theorem ss_asg (hN : X.N.Nodup) (hi : X.N[i]? = some x) (hl : locB X.env.scope X.fn x = true) (he : SE X W e m) (hs : swapsWith e (some (.Name x p')) pos.line X.env = pure false) :
    SS X W (.Assign [.Name x p'] e pos) (fun env s => (m env s).thn env fun v s1 => .nx (setS v env i) s1) := by
  obtain ⟨h1, h2⟩ := locB_ok hl
  refine (ps_set hN hi h1 he hs h2).imp fun D σ H h => ?_
  obtain ⟨ι, env, s, S, R, p⟩ := h
  exact ⟨ι, env, s, S, R, SPost.thn S R p fun ι1 v s1 y H1 g1 R1 S1 ry p1 => p1 _ ι1 H1 (Grow.refl _ _) R1 (S1.set ry)⟩
theorem ss_asgT {is : List Nat} {es : List Expr} {k : Nat} (hc : X.calm = true) (hN : X.N.Nodup) (ht : tgOk X.env.scope X.N X.fn is es = true) (he : SE X W e m) (hs : swapsWithSole [.Tuple es k p'] e pos.line X.env = pure false) (hw : swappedStores [.Tuple es k p'] e X.env = pure none) :
    SS X W (.Assign [.Tuple es k p'] e pos) (fun env s => (m env s).thn env fun v s1 => match v with
      | .tup vs => optN (setAll is vs env) s1
      | _ => .stuck) := by
  refine (ps_asg he (sg_tup hc hN ht) hs hw rfl).imp fun D σ H h => ?_
  obtain ⟨ι, env, s, S, R, p⟩ := h
  refine ⟨ι, env, s, S, R, SPost.thn S R p fun ι1 v s1 y H1 g1 R1 S1 ry p1 => ?_⟩
  have ry' : Rep X.K X.mg ι1 H1 v y := ry
  cases v with
  | tup vs =>
    simp only at p1
    cases e1 : setAll is vs env with
    | none => rw [e1] at p1; exact p1.elim
    | some env' =>
      rw [e1] at p1
      exact ⟨ι1, s1, env, .tup vs, env', R1, S1, ry', by rw [← e1]; simp only [bindT, Bool.false_eq_true, if_false]; exact bindTs_eq _ _ _, fun σ' S' _ => p1 σ' ι1 H1 (Grow.refl _ _) R1 S'⟩
  | _ => exact p1.elim
theorem ss_if {bc : Env → Store → Res Bool} {p q : List Stmt} (hc : SB X W c bc) (ha : SSs X W p ms) (hb : SSs X W q mr) : SS X W (.If c p q pos) (fun env s => (bc env s).thn env fun k s1 => match k with
    | true => ms env s1
    | false => mr env s1) := by
  refine (ps_if hc ha hb).imp fun D σ H h => ?_
  obtain ⟨ι, env, s, S, R, p⟩ := h
  refine ⟨ι, env, s, S, R, SPost.thn S R p fun ι1 k s1 k' H1 g1 R1 S1 ry p1 => ?_⟩
  have ek : k = k' := ry
  subst ek
  cases k with
  | true => rw [if_pos rfl]; exact ⟨ι1, env, s1, S1, R1, p1⟩
  | false => rw [if_neg Bool.false_ne_true]; exact ⟨ι1, env, s1, S1, R1, p1⟩
/-- a turn's ends -/
theorem SPost.turn {K : PySem.W.Frag} {mg : Str → Option Value} {ι0 ι : List Addr} {H0 H : Hp} {D : Ends} {r : SR} {f : Env → Store → SR} (p : SPost K mg W ι H D (r.turn f)) (N : St → Hp → Prop)
    (hn : ∀ σ' ι' H' env' st', Grow ι H ι' H' → Rel K mg ι' H' st' → RelS K mg ι' H' env' σ' → SPost K mg W ι' H' D (f env' st') → N σ' H') : SPost K mg W ι H { D with nx := N, ct := N, bk := D.nx } r := by
  cases r with
  | nx e1 s1 => exact fun σ' ι' H' g R S => hn σ' ι' H' e1 s1 g R S (SPost.grow p g)
  | ct e1 s1 => exact fun σ' ι' H' g R S => hn σ' ι' H' e1 s1 g R S (SPost.grow p g)
  | rt v s1 => exact p
  | bk e1 s1 => exact p
  | exc y e1 s1 => exact p
  | stuck => exact p
theorem ss_while {bc : Env → Store → Res Bool} (hp : PassesOwn (model X.prog X.w) X.A X.env X.xe) (hc : SB X W c bc) (hb : SSs X W body ms) : SS X W (.While c body [] pos) (fun env s => whileGo bc ms 16777216 env s) := by
  refine (ps_while hp hc hb).imp fun D σ H h => ?_
  obtain ⟨ι, env, s, S, R, p⟩ := h
  refine ⟨fun m σ H => ∃ ι env s, RelS X.K X.mg ι H env σ ∧ Rel X.K X.mg ι H s ∧ SPost X.K X.mg W ι H D (whileGo bc ms m env s), ⟨_, ι, env, s, S, R, p⟩, ?_⟩
  rintro n σ1 H1 ⟨ι1, env1, s1, S1, R1, p1⟩
  cases n with
  | zero => exact p1.elim
  | succ n =>
    unfold whileGo at p1
    refine ⟨ι1, env1, s1, S1, R1, SPost.thn S1 R1 p1 fun ι2 k s2 k' H2 g2 R2 S2 ry p2 => ?_⟩
    have ek : k = k' := ry
    subst ek
    cases k with
    | false => rw [if_neg Bool.false_ne_true]; exact p2 σ1 ι2 H2 (Grow.refl _ _) R2 S2
    | true =>
      rw [if_pos rfl]
      refine ⟨fun σ' H' => ∃ ι env s, RelS X.K X.mg ι H' env σ' ∧ Rel X.K X.mg ι H' s ∧ SPost X.K X.mg W ι H' D (whileGo bc ms n env s), fun σ' H' h => ⟨n, Nat.lt_succ_self n, h⟩, ι2, env1, s2, S2, R2, ?_⟩
      exact SPost.turn (ι0 := ι2) (H0 := H2) p2 _ fun σ' ι' H' env' st' g R S p => ⟨ι', env', st', S, R, p⟩
theorem ss_for {tg iter : Expr} {is : List Nat} {one : Bool} {mI : Env → Store → Res Itr} (hp : PassesOwn (model X.prog X.w) X.A X.env X.xe) (hc : X.calm = true) (hi : SI X W tg iter mI) (hg : PG X tg (gEv X.K X.mg one is)) (hb : SSs X W body ms) (hs : ∀ x, foldedSetIterable iter X.env x = pure x) :
    SS X W (.For tg iter body [] pos) (fun env s => (mI env s).thn env fun j s1 => forAll is one ms j env s1) := by
  refine (ps_for hp hc hi hg hb hs).imp fun D σ H h => ?_
  obtain ⟨ι, env, s, S, R, p⟩ := h
  refine ⟨ι, env, s, S, R, ?_⟩
  dsimp only at p
  generalize mI env s = r at p ⊢
  cases r with
  | stuck => exact p
  | exc y s1 => exact fun cls d ι1 H1 g R1 h => p cls d σ ι1 H1 g R1 (S.grow R g) h
  | ok j s1 =>
    intro J ι1 H1 g1 R1 ij
    have p1 : SPost X.K X.mg W ι1 H1 D (forAll is one ms j env s1) := SPost.grow p g1
    have S1 := S.grow R g1
    -- the loop, by what goes on from turn i
    have main : ∀ (go : Nat → Env → Store → SR) (fuel : Nat),
        (∀ i env st ι H, i ≤ fuel → SPost X.K X.mg W ι H D (go i env st) → inB j i ∧ ∃ o, nxtA j i st = some o ∧ (match o with
          | none => SPost X.K X.mg W ι H D (.nx env st)
          | some x => i < fuel ∧ ∃ env', bindT one is x env = some env' ∧ SPost X.K X.mg W ι H D ((ms env' st).turn fun e s => go (i + 1) e s))) →
        SPost X.K X.mg W ι1 H1 D (go 0 env s1) →
        ∃ Wn : Nat → Nat → St → Hp → Prop, (∃ m, Wn 0 m σ H1) ∧ ∀ i m σ H, Wn i m σ H → (J.stop i H ∧ D.nx σ H) ∨ (J.go i H ∧ ∃ N : St → Hp → Prop, (∀ σ' H', N σ' H' → ∃ m', m' < m ∧ Wn (i + 1) m' σ' H') ∧ ∀ x H', J.yld i H x H' → gEv X.K X.mg one is x σ H' fun σ2 H2 =>
          ∃ ι env st, RelS X.K X.mg ι H2 env σ2 ∧ Rel X.K X.mg ι H2 st ∧ SPost X.K X.mg W ι H2 { D with nx := N, ct := N, bk := D.nx } (ms env st)) := by
      intro go fuel step start
      refine ⟨fun i m σ H => ∃ ι env st, i + m = fuel + 1 ∧ i ≤ fuel ∧ Grow ι1 H1 ι H ∧ RelS X.K X.mg ι H env σ ∧ Rel X.K X.mg ι H st ∧ SPost X.K X.mg W ι H D (go i env st),
        ⟨fuel + 1, ι1, env, s1, by omega, Nat.zero_le _, Grow.refl _ _, S1, R1, start⟩, fun i m σ' H' hw => ?_⟩
      obtain ⟨ι2, env2, s2, hm, hf, g2, S2, R2, p2⟩ := hw
      obtain ⟨hb, o, ho, hk⟩ := step i env2 s2 ι2 H' hf p2
      obtain ⟨i1, i2⟩ := ij ι2 H' s2 i g2 R2 hb
      cases o with
      | none => exact .inl ⟨i2 ho, hk σ' ι2 H' (Grow.refl _ _) R2 S2⟩
      | some y =>
        obtain ⟨hlt, env', eb, pk⟩ := hk
        obtain ⟨a1, a2⟩ := i1 y ho
        refine .inr ⟨a1, fun σ3 H3 => ∃ ι env st, Grow ι1 H1 ι H3 ∧ RelS X.K X.mg ι H3 env σ3 ∧ Rel X.K X.mg ι H3 st ∧ SPost X.K X.mg W ι H3 D (go (i + 1) env st), fun σ3 H3 hn => ?_, fun v H3 hy => ?_⟩
        · obtain ⟨ι3, env3, s3, b1, b2, b3, b4⟩ := hn
          exact ⟨m - 1, by omega, ι3, env3, s3, by omega, by omega, b1, b2, b3, b4⟩
        · obtain ⟨gy, Ry, ry⟩ := a2 v H3 hy
          refine ⟨ι2, s2, env2, y, env', Ry, S2.grow R2 gy, ry, eb, fun σ4 S4 _ => ⟨ι2, env', s2, S4, Ry, ?_⟩⟩
          exact SPost.turn (ι0 := ι2) (H0 := H3) (SPost.grow pk gy) _ fun σ5 ι5 H5 env5 st5 g5 R5 S5 p5 => ⟨ι5, env5, st5, (g2.trans gy).trans g5, S5, R5, p5⟩
    have goO : (∀ {k s}, nxtA j k s = nxtI j k s) → (∀ i, inB j i) → SPost X.K X.mg W ι1 H1 D (forGoO is one ms j 16777216 0 env s1) → _ := fun hj hb p1 => main (fun i env st => forGoO is one ms j (16777216 - i) i env st) 16777216 (fun i env st ι H hi pg => by
      refine ⟨hb i, ?_⟩
      cases hf : 16777216 - i with
      | zero => rw [hf] at pg; exact pg.elim
      | succ f =>
        rw [hf] at pg
        unfold forGoO at pg
        rw [hj]
        cases hn : nxtI j i st with
        | none => rw [hn] at pg; exact pg.elim
        | some o =>
          rw [hn] at pg
          refine ⟨o, rfl, ?_⟩
          cases o with
          | none => exact pg
          | some x =>
            simp only at pg ⊢
            cases eb : bindT one is x env with
            | none => rw [eb] at pg; exact pg.elim
            | some env' =>
              rw [eb] at pg
              have e : 16777216 - (i + 1) = f := by omega
              refine ⟨by omega, env', rfl, ?_⟩
              rw [e]
              exact pg) p1
    unfold forAll at p1
    cases j with
    | st xs =>
      refine main (fun i env st => forGo is one ms (xs.drop i) env st) xs.length (fun i env st ι H hi pg => ⟨hi, atP xs i, rfl, ?_⟩) (by simpa using p1)
      by_cases hlt : i < xs.length
      · have e1 : atP xs i = some xs[i] := by rw [atP_get, List.getElem?_eq_getElem hlt]
        rw [e1]
        rw [List.drop_eq_getElem_cons hlt] at pg
        unfold forGo at pg
        cases eb : bindT one is xs[i] env with
        | none => rw [eb] at pg; exact pg.elim
        | some env' =>
          rw [eb] at pg
          exact ⟨hlt, env', eb, pg⟩
      · have e1 : atP xs i = none := by rw [atP_get, List.getElem?_eq_none_iff]; omega
        rw [e1]
        have e2 : xs.drop i = [] := List.drop_eq_nil_iff.mpr (by omega)
        rw [e2] at pg
        exact pg
    | ob n => exact goO rfl (fun _ => trivial) p1
    | en n => exact goO rfl (fun _ => trivial) p1
end
end Ev

namespace Ev
open PySem PySem.Spec L2

section
variable {X : Cx} {W : WX} {pos p' : Pos} {e a b c o i : Expr} {m ma mb mc mo mi : Env → Store → Res PV} {x y z : Str}
theorem io_mulW : OpR X (inplaceOp .Mult) (rI CMulW fun i j => .int (i * j)) := opI fun _ _ _ _ _ _ _ hc q => PyProof.Rows.imul_int q hc.ok
theorem or_iop (op : Bop) : OpR X (inplaceOp (opOf op)) (rOp X.K X.mg W (evIop op)) := by
  cases op
  · refine iop_add.imp fun x y H Q h => ?_
    obtain ⟨σ, ι, px, py, st, R, rx, ry, p⟩ := h
    unfold evIop at p
    split at p
    · cases rx; cases ry
      exact ⟨_, _, rfl, rfl, p.here R (.int _)⟩
    · exact p.elim
  · refine iop_sub.imp fun x y H Q h => ?_
    obtain ⟨σ, ι, px, py, st, R, rx, ry, p⟩ := h
    unfold evIop at p
    split at p
    · cases rx; cases ry
      exact ⟨_, _, rfl, rfl, p.here R (.int _)⟩
    · exact p.elim
  · refine (OpR.or iop_mul io_mulW).imp fun x y H Q h => ?_
    obtain ⟨σ, ι, px, py, st, R, rx, ry, p⟩ := h
    unfold evIop at p
    split at p
    · simp only at p
      split at p
      · rename_i hm
        cases rx; cases ry
        unfold mulOk at hm
        simp only [Bool.or_eq_true, decide_eq_true_eq] at hm
        rcases hm with (hm | hm) | hm
        · exact .inl ⟨_, _, rfl, rfl, .inl ⟨by omega, by omega⟩, p.here R (.int _)⟩
        · exact .inl ⟨_, _, rfl, rfl, .inr ⟨by omega, by omega⟩, p.here R (.int _)⟩
        · exact .inr ⟨_, _, rfl, rfl, hm, p.here R (.int _)⟩
      · exact p.elim
    · exact p.elim
  · refine iop_mod.imp fun x y H Q h => ?_
    obtain ⟨σ, ι, px, py, st, R, rx, ry, p⟩ := h
    unfold evIop at p
    split at p
    · simp only at p
      split at p
      · rename_i hj
        cases rx; cases ry
        exact ⟨_, _, rfl, rfl, hj, p.here R (.int _)⟩
      · exact p.elim
    · exact p.elim
  · refine iop_fdiv.imp fun x y H Q h => ?_
    obtain ⟨σ, ι, px, py, st, R, rx, ry, p⟩ := h
    unfold evIop at p
    split at p
    · simp only at p
      split at p
      · rename_i hj
        split at p
        · rename_i hj2
          cases rx; cases ry
          exact ⟨_, _, rfl, rfl, ⟨hj, hj2⟩, p.here R (.int _)⟩
        · exact p.elim
      · exact p.elim
    · exact p.elim
  · intro pins s σ H x y v u Q I rx ry h
    obtain ⟨σ, ι, px, py, st, R, rx, ry, p⟩ := h
    unfold evIop at p
    split at p
    · exact p.elim
    · exact p.elim
theorem pip_of {op : Operator} {r : R2} (h : OpR X (inplaceOp op) r) : PIp X op r := fun pins s σ H x y v u Q I rx ry q => h pins s σ H x y v u Q I rx ry q
theorem ss_aug {n : Nat} {op : Bop} (hN : X.N.Nodup) (hi : X.N[n]? = some x) (hl : locB X.env.scope X.fn x = true) (he : SE X W e m) :
    SS X W (.AugAssign (.Name x p') (opOf op) e pos) (fun env st => match getS env n with
      | some x => (m env st).thn env fun y st1 => (evIop op x y st1).thn env fun z st2 => .nx (setS z env n) st2
      | none => .stuck) := by
  obtain ⟨h1, h2⟩ := locB_ok hl
  refine (ps_aug hN hi h1 he (pip_of (or_iop (W := W) op)) h2).imp fun D σ H h => ?_
  obtain ⟨ι, env, s, S, R, p⟩ := h
  dsimp only at p
  split at p
  · rename_i px e1
    obtain ⟨v, hv, rv⟩ := S.get n px e1
    refine ⟨v, hv, ι, env, s, S, R, SPost.thn S R p fun ι1 py s1 y H1 g1 R1 S1 ry p1 => ?_⟩
    refine ⟨σ, ι1, px, py, s1, R1, rv.grow R g1, ry, SPost.thn S1 R1 p1 fun ι2 pz s2 z H2 g2 R2 S2 rz p2 => ?_⟩
    exact p2 _ ι2 H2 (Grow.refl _ _) R2 (S2.set rz)
  · exact p.elim
theorem putP_set : ∀ (xs : List PV) (v : PV) (k : Nat), putP v xs k = xs.set k v
  | [], _, _ => rfl
  | _ :: _, _, 0 => rfl
  | x :: xs, v, k + 1 => by simp only [putP, List.set]; rw [putP_set xs v k]
theorem Reps.set {K : PySem.W.Frag} {mg : Str → Option Value} {ι : List Addr} {H : Hp} {x : PV} {v : V} : ∀ {xs : List PV} {vs : List V} (k : Nat), Reps K mg ι H xs vs → Rep K mg ι H x v → Reps K mg ι H (xs.set k x) (vs.set k v)
  | _, _, _, .nil, _ => .nil
  | _, _, 0, .cons h hs, r => .cons r hs
  | _, _, k + 1, .cons h hs, r => .cons h (Reps.set k hs r)
theorem set_dct {D : Ends} {σ : St} {env : Env} {ι : List Addr} {H : Hp} {px pv : PV} {x v : V} {k : Key} {st : Store} {kont : Store → SR} {Q : St → Hp → Prop} (R : Rel X.K X.mg ι H st) (S : RelS X.K X.mg ι H env σ) (rx : Rep X.K X.mg ι H px x) (rv : Rep X.K X.mg ι H pv v)
    (q : SPost X.K X.mg W ι H D ((setD px k pv st).thn env fun _ st4 => kont st4)) (hk : ∀ ι' H' s', Grow ι H ι' H' → Rel X.K X.mg ι' H' s' → RelS X.K X.mg ι' H' env σ → SPost X.K X.mg W ι' H' D (kont s') → Q σ H') : rSetD x (kV k) v H fun H' => Q σ H' := by
  unfold setD at q
  split at q
  · rename_i n
    split at q
    · rename_i kvs hn
      split at q
      · rename_i hl
        cases rx with
        | obj e1 =>
          obtain ⟨kws, h1, r1⟩ := R.dct e1 hn
          obtain ⟨R4, g4⟩ := R.putD e1 (r1.put (k := k) rv)
          exact ⟨_, _, rfl, DPut.k h1 (by rw [← r1.length]; exact hl), hk _ _ _ g4 R4 (S.grow R g4) (SPost.grow q g4)⟩
      · exact q.elim
    · exact q.elim
  · exact q.elim
/-- o[i] = v: what the evaluator does, the model does -/
theorem set_core {D : Ends} {σ : St} {env : Env} {ι1 : List Addr} {H1 : Hp} {pv : PV} {v : V} {s1 : Store} {kont : Store → SR} {Q : St → Hp → Prop} (R1 : Rel X.K X.mg ι1 H1 s1) (S1 : RelS X.K X.mg ι1 H1 env σ) (rv : Rep X.K X.mg ι1 H1 pv v)
    (q1 : SPost X.K X.mg W ι1 H1 D ((mo env s1).thn env fun x st2 => (mi env st2).thn env fun y st3 => (evSet x y pv st3).thn env fun _ st4 => kont st4))
    (hk : ∀ ι' H' s', Grow ι1 H1 ι' H' → Rel X.K X.mg ι' H' s' → RelS X.K X.mg ι' H' env σ → SPost X.K X.mg W ι' H' D (kont s') → Q σ H') :
    gSub (fun σ H Q => Rd (kE (K := X.K) (mg := X.mg)) W mo σ H Q) (fun σ H Q => Rd (kE (K := X.K) (mg := X.mg)) W mi σ H Q) (fun o i v H Q => rSetD o i v H Q ∨ rSetL o i v H Q) v σ H1 Q := by
  refine ⟨ι1, env, s1, S1, R1, SPost.thn S1 R1 q1 fun ι2 px s2 x H2 g2 R2 S2 rx q2 => ?_⟩
  refine ⟨ι2, env, s2, S2, R2, SPost.thn S2 R2 q2 fun ι3 py s3 y H3 g3 R3 S3 ry q3 => ?_⟩
  have rx3 := Rep.grow R2 g3 rx
  have rv3 := Rep.grow R2 g3 (Rep.grow R1 g2 rv)
  have ry3 : Rep X.K X.mg ι3 H3 py y := ry
  have hk3 : ∀ ι' H' s', Grow ι3 H3 ι' H' → Rel X.K X.mg ι' H' s' → RelS X.K X.mg ι' H' env σ → SPost X.K X.mg W ι' H' D (kont s') → Q σ H' := fun ι' H' s' g => hk ι' H' s' ((g2.trans g3).trans g)
  unfold evSet at q3
  split at q3
  · rename_i n k
    split at q3
    · rename_i xs hn
      split at q3
      · rename_i j hj
        cases rx3 with
        | obj e1 =>
          cases ry3
          obtain ⟨vs, h1, r1⟩ := R3.lst e1 hn
          obtain ⟨R4, g4⟩ := R3.put e1 (Reps.set j r1 rv3)
          rw [putP_set] at q3
          exact .inr ⟨_, vs, k, j, rfl, rfl, h1, by rw [← r1.length]; exact hj, hk3 _ _ _ g4 R4 (S3.grow R3 g4) (SPost.grow q3 g4)⟩
      · exact q3.elim
    · cases ry3
      exact .inl (set_dct (k := .inl k) R3 S3 rx3 rv3 q3 hk3)
  · rename_i k
    cases ry3
    exact .inl (set_dct (k := .inr k) R3 S3 rx3 rv3 q3 hk3)
  · exact q3.elim
theorem asg_sub {p1 : Pos} (hs : isSlice i = false) : ∀ v, assign (.Subscript o i p1) X.env v = (do
      let ov ← holding [v] (eval o X.env)
      let iv ← holding [v, ov] (eval i X.env)
      standAt p1
      holding [v, ov, iv] (setItem ov iv v)
      release [v, ov, iv] []) := by
  intro v
  cases i <;> first | rfl | (cases hs)
theorem ss_sets {p1 : Pos} (hu : X.A.units + 1 < cLine) (he : SE X W e m) (ho : SE X W o mo) (hi : SE X W i mi) (hs : isSlice i = false) (hw : swapsWith e (some (.Subscript o i p1)) pos.line X.env = pure false) :
    SS X W (.Assign [.Subscript o i p1] e pos) (fun env st => (m env st).thn env fun v st1 => (mo env st1).thn env fun x st2 => (mi env st2).thn env fun y st3 => (evSet x y v st3).thn env fun _ st4 => .nx env st4) := by
  have hsw : swappedStores [.Subscript o i p1] e X.env = pure none := by cases e <;> rfl
  refine (ps_asg he (pg_sub ho hi (PSet.or (set_dict hu) set_list) (asg_sub hs)) hw hsw rfl).imp fun D σ H h => ?_
  obtain ⟨ι, env, s, S, R, p⟩ := h
  refine ⟨ι, env, s, S, R, SPost.thn S R p fun ι1 pv s1 v H1 g1 R1 S1 rv q1 => ?_⟩
  exact set_core (kont := fun st4 => .nx env st4) (Q := D.nx) R1 S1 rv q1 fun ι' H' s' g' R' S' q' => q' σ ι' H' (Grow.refl _ _) R' S'
/-- o[i], o2[i2] = a pair -/
theorem ss_set2 {p1 p2 pt : Pos} {kt : Nat} {o2 i2 : Expr} {mo2 mi2 : Env → Store → Res PV} (hc : X.calm = true) (hu : X.A.units + 1 < cLine) (he : SE X W e m) (ho : SE X W o mo) (hi : SE X W i mi) (ho2 : SE X W o2 mo2) (hi2 : SE X W i2 mi2) (hs : isSlice i = false) (hs2 : isSlice i2 = false)
    (hw : swapsWithSole [.Tuple [.Subscript o i p1, .Subscript o2 i2 p2] kt pt] e pos.line X.env = pure false) (hsw : swappedStores [.Tuple [.Subscript o i p1, .Subscript o2 i2 p2] kt pt] e X.env = pure none) :
    SS X W (.Assign [.Tuple [.Subscript o i p1, .Subscript o2 i2 p2] kt pt] e pos) (fun env st => (m env st).thn env fun v st1 => match v with
      | .tup [v1, v2] => (mo env st1).thn env fun x st2 => (mi env st2).thn env fun y st3 => (evSet x y v1 st3).thn env fun _ st4 => (mo2 env st4).thn env fun x2 st5 => (mi2 env st5).thn env fun y2 st6 => (evSet x2 y2 v2 st6).thn env fun _ st7 => .nx env st7
      | _ => .stuck) := by
  refine (ps_asg he (pg_tup (n := 2) hc (pgs_cons (pg_sub ho hi (PSet.or (set_dict hu) set_list) (asg_sub hs)) (pgs_cons (pg_sub ho2 hi2 (PSet.or (set_dict hu) set_list) (asg_sub hs2)) pgs_nil))) hw hsw rfl).imp fun D σ H h => ?_
  obtain ⟨ι, env, s, S, R, p⟩ := h
  refine ⟨ι, env, s, S, R, SPost.thn S R p fun ι1 pv s1 v H1 g1 R1 S1 rv q1 => ?_⟩
  have rv' : Rep X.K X.mg ι1 H1 pv v := rv
  split at q1
  · rename_i v1 v2
    cases rv' with
    | tup t1 r1 =>
      cases r1 with
      | cons ra r1 =>
        cases r1 with
        | cons rb r1 =>
          cases r1
          refine ⟨_, _, rfl, t1, rfl, _, _, rfl, ?_⟩
          refine set_core (Q := _) R1 S1 ra q1 fun ι2 H2 s2 g2 R2 S2 q2 => ?_
          refine ⟨_, _, rfl, ?_⟩
          refine set_core (kont := fun st4 => .nx env st4) R2 S2 (Rep.grow R1 g2 rb) q2 fun ι3 H3 s3 g3 R3 S3 q3 => ?_
          exact ⟨rfl, q3 σ ι3 H3 (Grow.refl _ _) R3 S3⟩
  · exact q1.elim
/-- o[i] op= e -/
theorem ss_par2 {n k : Nat} {px py pt pt2 : Pos} {kt k2 : Nat} {ms : Env → Store → Res (List PV)} (hc : X.calm = true) (hN : X.N.Nodup) (hi : X.N[n]? = some x) (hj : X.N[k]? = some y) (hij : n ≠ k) (hx : X.env.scope.names.lookup x = some .local) (hy : X.env.scope.names.lookup y = some .local) (ha : SA X W [a, b] ms)
    (hw : swappedStores [.Tuple [.Name x px, .Name y py] kt pt] (.Tuple [a, b] k2 pt2) X.env = pure (some [x, y])) :
    SS X W (.Assign [.Tuple [.Name x px, .Name y py] kt pt] (.Tuple [a, b] k2 pt2) pos) (fun env st => (ms env st).thn env fun vs st1 => optN (setAll [n, k] vs env) st1) := by
  refine (ps_par hc hN hi hj hij hx hy ha hw).imp fun D σ H h => ?_
  obtain ⟨ι, env, s, S, R, p⟩ := h
  refine ⟨ι, env, s, S, R, SPost.thn S R p fun ι1 pv s1 v H1 g1 R1 S1 rv q1 => ?_⟩
  have rv' : Reps X.K X.mg ι1 H1 pv v := rv
  cases rv' with
  | nil => exact q1.elim
  | cons r1 rv' =>
    cases rv' with
    | nil => exact q1.elim
    | cons r2 rv' =>
      cases rv' with
      | nil => exact ⟨_, _, rfl, q1 _ _ _ (Grow.refl _ _) R1 ((S1.set r1).set r2)⟩
      | cons r3 rv' => exact q1.elim
theorem ss_par3 {n k l : Nat} {px py pz pt pt2 : Pos} {kt k2 : Nat} {ms : Env → Store → Res (List PV)} (hc : X.calm = true) (hN : X.N.Nodup) (hi : X.N[n]? = some x) (hj : X.N[k]? = some y) (hl : X.N[l]? = some z) (hij : n ≠ k) (hil : n ≠ l) (hjl : k ≠ l)
    (hx : X.env.scope.names.lookup x = some .local) (hy : X.env.scope.names.lookup y = some .local) (hz : X.env.scope.names.lookup z = some .local) (ha : SA X W [a, b, c] ms)
    (hw : swappedStores [.Tuple [.Name x px, .Name y py, .Name z pz] kt pt] (.Tuple [a, b, c] k2 pt2) X.env = pure (some [x, y, z])) :
    SS X W (.Assign [.Tuple [.Name x px, .Name y py, .Name z pz] kt pt] (.Tuple [a, b, c] k2 pt2) pos) (fun env st => (ms env st).thn env fun vs st1 => optN (setAll [n, k, l] vs env) st1) := by
  refine (ps_par3 hc hN hi hj hl hij hil hjl hx hy hz ha hw).imp fun D σ H h => ?_
  obtain ⟨ι, env, s, S, R, p⟩ := h
  refine ⟨ι, env, s, S, R, SPost.thn S R p fun ι1 pv s1 v H1 g1 R1 S1 rv q1 => ?_⟩
  have rv' : Reps X.K X.mg ι1 H1 pv v := rv
  cases rv' with
  | nil => exact q1.elim
  | cons r1 rv' =>
    cases rv' with
    | nil => exact q1.elim
    | cons r2 rv' =>
      cases rv' with
      | nil => exact q1.elim
      | cons r3 rv' =>
        cases rv' with
        | nil => exact ⟨_, _, _, rfl, q1 _ _ _ (Grow.refl _ _) R1 (((S1.set r1).set r2).set r3)⟩
        | cons r4 rv' => exact q1.elim
variable {elt tg iter : Expr} {ifs : List Expr} {scope : Scope} {own : List (Str × Nat)} {is : List Nat} {one : Bool} {mI : Env → Store → Res Itr} {mt : Env → Store → Res Bool} {me : Env → Store → Res PV}
/-- name = [..], the store within the block -/
theorem ss_asgLc {n : Nat} {py : Pos} (hc : X.calm = true) (hN : X.N.Nodup) (hy : X.N[n]? = some y) (hyl : X.env.scope.names.lookup y = some .local)
    (hsw : swapsWith (.ListComp elt [⟨tg, iter, ifs, 0⟩] scope p') (some (.Name y py)) pos.line X.env = pure true) (hi : SI X W tg iter mI) (ok : BlkOk X.N X.env.scope scope own)
    (hg : ∀ (s : Shared) (H : Hp) (C : Addr) (cl : List (Str × Addr)) (fp : List Addr), PG (X.blk s H scope (compEnvC scope cl C X.env) fp) tg (gEv X.K X.mg one is))
    (ht : ∀ (s : Shared) (H : Hp) (C : Addr) (cl : List (Str × Addr)) (fp : List Addr), PTs (X.blk s H scope (compEnvC scope cl C X.env) fp) ifs (fun σ H Q => Rd (kB (K := X.K) (mg := X.mg)) W0 mt σ H Q))
    (he : ∀ (s : Shared) (H : Hp) (C : Addr) (cl : List (Str × Addr)) (fp : List Addr), SE (X.blk s H scope (compEnvC scope cl C X.env) fp) W0 elt me) (hs : ∀ x, foldedSetIterable iter X.env x = pure x) (hsub : ∀ i ∈ is, i ∈ own.map (·.2)) :
    SS X W (.Assign [.Name y py] (.ListComp elt [⟨tg, iter, ifs, 0⟩] scope p') pos) (fun env s => (((mI env s).bind fun j st1 => (compAll (compTurn1 is one mt me (wipeS env (own.map (·.2)))) j st1).bind compEnd).bind fun q st1 => match q.1 with
    | .tmp => allocL q.2 st1
    | _ => .stuck).thn env fun v s1 => .nx (setS v env n) s1) := by
  refine (ps_setLc (te := fun σ H Q => Rd (kE (K := X.K) (mg := X.mg)) W0 me σ H Q) hc hN hy hyl hsw hi ok hg ht he hs).imp fun D σ H h => ?_
  obtain ⟨ι, env, s, S, R, p⟩ := h
  refine lc_imp hi hsub ⟨ι, env, s, S, R, ?_⟩
  dsimp only at p ⊢
  generalize ((mI env s).bind fun j st1 => (compAll (compTurn1 is one mt me (wipeS env (own.map (·.2)))) j st1).bind compEnd) = r at p ⊢
  cases r with
  | stuck => exact p
  | exc y s1 => exact fun cls d ι1 H1 g R1 h => p cls d σ ι1 H1 g R1 (S.grow R g) h
  | ok q st1 =>
    obtain ⟨src, xs⟩ := q
    intro v ι1 H1 g1 R1 rx
    obtain ⟨a, vs, rfl, rs, hq⟩ := rx
    cases src with
    | tmp =>
      simp only [Res.bind, allocL] at p
      obtain ⟨h1, h2, h3⟩ := hq
      have R2 := R1.push h1 h2 rs
      have S1 := S.grow R (g1.snoc h3)
      refine p _ _ _ (g1.snoc h3) R2 (S1.set (.obj ?_))
      rw [List.getElem?_append_right (by rw [R1.len]; exact Nat.le_refl _), R1.len, Nat.sub_self]
      rfl
    | tup => exact p.elim
    | obj n => exact p.elim
    | rol => exact p.elim
end
end Ev

namespace Ev
open PySem PySem.Spec PyProof.Rows L2
/-! ### {k: v for ..} -/
section
variable {X : Cx} {W : WX}
def DcAt (K : PySem.W.Frag) (mg : Str → Option Value) (ι1 : List Addr) (H1 : Hp) (D : Addr) (env : Env) (σ : L2.St) (acc : List (Key × PV)) (ι : List Addr) (H : Hp) (st : Store) : Prop :=
  Grow ι1 H1 ι H ∧ Rel K mg ι H st ∧ D ∉ ι ∧ RelS K mg ι H env σ ∧ ∃ kws, H D = some (.dK kws) ∧ RepK K mg ι H acc kws
def DcTo (K : PySem.W.Frag) (mg : Str → Option Value) (W : WX) (σ : L2.St) (ι1 : List Addr) (H1 : Hp) (Q : VK) (r : Res (List (Key × PV))) : Prop := Post (kE (K := K) (mg := mg)) W σ ι1 H1 Q (r.bind dcEnd)
theorem DcTo.ok {K : PySem.W.Frag} {mg : Str → Option Value} {W : WX} {σ σ' : L2.St} {ι1 ι : List Addr} {H1 H : Hp} {Q : VK} {acc : List (Key × PV)} {st : Store} {D : Addr} {env : Env} (h0 : H1 D = none) (p : DcTo K mg W σ ι1 H1 Q (.ok acc st)) (c : DcAt K mg ι1 H1 D env σ' acc ι H st) : Q (.ref D) H := by
  obtain ⟨g, R, hD, S, kws, h1, r1⟩ := c
  refine p (.ref D) (ι ++ [D]) H (g.snoc h0) (R.pushO (o := .dct acc) ⟨kws, h1, r1⟩ hD) (.obj ?_)
  rw [← R.len]
  simp
theorem length_putKP (k : Key) (v : PV) (kvs : List (Key × PV)) : (putKP kvs k v).length ≤ kvs.length + 1 := by
  rw [putKP_eq]
  split <;> simp
/-- one turn -/
theorem dc_turn {g : TG} {is : List Nat} {one : Bool} {own : List Nat} {tt : TT} {mt : Env → Store → Res Bool} {mk me : Env → Store → Res PV} (hg : g = gEv X.K X.mg one is) (htt : ∀ σ H Q, Rd (kB (K := X.K) (mg := X.mg)) W0 mt σ H Q → tt σ H Q) (hsub : ∀ i ∈ is, i ∈ own)
    {σ : L2.St} {env : Env} {ι1 ι : List Addr} {H1 H : Hp} {D : Addr} {acc : List (Key × PV)} {st : Store} {x : PV} {v : V} {Q : VK} {k : List (Key × PV) → Store → Res (List (Key × PV))} (h0 : H1 D = none)
    (c : DcAt X.K X.mg ι1 H1 D (wipeS env own) (wipe σ own) acc ι H st) (rx : Rep X.K X.mg ι H x v) (p : DcTo X.K X.mg W σ ι1 H1 Q ((dcTurn is one mt mk me (wipeS env own) x acc st).bind k))
    (Nx : Hp → Prop) (hN : ∀ acc' ι' H' st', DcAt X.K X.mg ι1 H1 D (wipeS env own) (wipe σ own) acc' ι' H' st' → acc'.length ≤ acc.length + 1 → DcTo X.K X.mg W σ ι1 H1 Q (k acc' st') → Nx H') (hsz : acc.length < sizeLine) :
    g v (wipe σ own) H fun σ2 H2 => wipe σ2 own = wipe σ own ∧ tt σ2 H2 fun b H3 => if b = true then Rd (kE (K := X.K) (mg := X.mg)) W0 mk σ2 H3 fun y H4 => Rd (kE (K := X.K) (mg := X.mg)) W0 me σ2 H4 fun z H5 => ∃ kvs k, y = kV k ∧ H5 D = some (.dK kvs) ∧ kvs.length < sizeLine ∧ Nx (upd H5 D (.dK (putK kvs k z))) else Nx H3 := by
  obtain ⟨g1, R, hD, S, kws, hv, rv⟩ := c
  subst hg
  unfold dcTurn at p
  cases eb : bindT one is x (wipeS env own) with
  | none => rw [eb] at p; exact p.elim
  | some env' =>
    rw [eb] at p
    simp only at p
    refine ⟨ι, st, _, x, env', R, S, rx, eb, fun σ' S' w' => ⟨?_, ?_⟩⟩
    · rw [w' own hsub]
      exact wipe_idem σ own own fun _ h => h
    · -- the test
      unfold DcTo at p
      rw [bind_assoc, bind_assoc] at p
      refine htt _ _ _ ⟨ι, env', st, S', R, Post.bindX p fun ι2 b st2 b' H3 g2 R2 e p2 => ?_⟩
      have e' : b = b' := e
      subst e'
      have keepD : H3 D = some (.dK kws) := g2.ext _ _ hv hD
      have nD : D ∉ ι2 := fun z => by
        rcases g2.new D z with w | w
        · exact hD w
        · rw [hv] at w; cases w
      cases b with
      | false =>
        rw [if_neg Bool.false_ne_true]
        exact hN acc ι2 H3 st2 ⟨g1.trans g2, R2, nD, S.grow R g2, kws, keepD, rv.grow R g2⟩ (Nat.le_succ _) p2
      | true =>
        rw [if_pos rfl]
        simp only at p2
        rw [bind_assoc] at p2
        refine ⟨ι2, env', st2, S'.grow R g2, R2, Post.bindX p2 fun ι3 w st3 y H4 g3 R3 rw p3 => ?_⟩
        have rw' : Rep X.K X.mg ι3 H4 w y := rw
        have keepD' : H4 D = some (.dK kws) := g3.ext _ _ keepD nD
        have nD' : D ∉ ι3 := fun z => by
          rcases g3.new D z with w | w
          · exact nD w
          · rw [keepD] at w; cases w
        rw [bind_assoc] at p3
        refine ⟨ι3, env', st3, (S'.grow R g2).grow R2 g3, R3, Post.bindX p3 fun ι4 u st4 z H5 g4 R4 ru p4 => ?_⟩
        have ru' : Rep X.K X.mg ι4 H5 u z := ru
        have keepD2 : H5 D = some (.dK kws) := g4.ext _ _ keepD' nD'
        have nD2 : D ∉ ι4 := fun z => by
          rcases g4.new D z with w | w
          · exact nD' w
          · rw [keepD'] at w; cases w
        cases ek : keyP w with
        | none => rw [ek] at p4; exact p4.elim
        | some kk =>
          rw [ek] at p4
          simp only at p4
          have gg : Grow ι1 H1 ι4 H5 := ((g1.trans g2).trans g3).trans g4
          have rs : RepK X.K X.mg ι4 H5 acc kws := ((rv.grow R g2).grow R2 g3).grow R3 g4
          have ey : y = kV kk := keyP_rep rw' ek
          have rp : RepK X.K X.mg ι4 (upd H5 D (.dK (putK kws kk z))) (putKP acc kk u) (putK kws kk z) := by
            have := rs.put (k := kk) ru'
            exact ⟨this.1, this.2.besideD keepD2⟩
          refine ⟨kws, kk, ey, keepD2, by rw [← rs.length]; exact hsz, hN (putKP acc kk u) ι4 _ st4 ⟨gg.beside h0 _, R4.besideD keepD2 nD2, nD2, ?_, _, upd_same, rp⟩ (length_putKP _ _ _) p4⟩
          have S3 := ((S.grow R g2).grow R2 g3).grow R3 g4
          exact ⟨S3.len, fun i z e => by
            obtain ⟨u, a1, a2⟩ := S3.get i z e
            exact ⟨u, a1, a2.besideD keepD2⟩⟩
/-- all turns -/
theorem dc_all {wi : TI} {is : List Nat} {one : Bool} {own : List Nat} {tt : TT} {mI : Env → Store → Res Itr} {mt : Env → Store → Res Bool} {mk me : Env → Store → Res PV} (htt : ∀ σ H Q, Rd (kB (K := X.K) (mg := X.mg)) W0 mt σ H Q → tt σ H Q) (hsub : ∀ i ∈ is, i ∈ own)
    (hwi : ∀ σ H Q, (∃ ι env st, RelS X.K X.mg ι H env σ ∧ Rel X.K X.mg ι H st ∧ PostI (K := X.K) (mg := X.mg) W σ ι H Q (mI env st)) → wi σ H Q) {σ : L2.St} {H : Hp} {Q : VK}
    (h : Rd (kE (K := X.K) (mg := X.mg)) W (fun env st => (mI env st).bind fun j st1 => (dcAll (dcTurn is one mt mk me (wipeS env own)) j st1).bind dcEnd) σ H Q) :
    tDc wi (gEv X.K X.mg one is) tt (fun σ H Q => Rd (kE (K := X.K) (mg := X.mg)) W0 mk σ H Q) (fun σ H Q => Rd (kE (K := X.K) (mg := X.mg)) W0 me σ H Q) own σ H Q := by
  obtain ⟨ι, env, st, S, R, p⟩ := h
  refine hwi σ H _ ⟨ι, env, st, S, R, ?_⟩
  dsimp only at p
  generalize mI env st = r at p
  cases r with
  | stuck => exact p
  | exc x s => exact p
  | ok j st1 =>
    intro J ι1 H1 g1 R1 ij D hD
    have p1 : DcTo X.K X.mg W σ ι1 H1 Q (dcAll (dcTurn is one mt mk me (wipeS env own)) j st1) := by
      have := Post.grow (k := kE (K := X.K) (mg := X.mg)) p g1 R1
      exact this
    have hDn : D ∉ ι1 := R1.fresh hD
    have S1 : RelS X.K X.mg ι1 H1 (wipeS env own) (wipe σ own) := (S.grow R g1).wipe own
    have gl : Grow ι1 H1 ι1 (upd H1 D (.dK [])) := Grow.lay hD
    have c0 : DcAt X.K X.mg ι1 H1 D (wipeS env own) (wipe σ own) [] ι1 (upd H1 D (.dK [])) st1 := ⟨gl, R1.lay hD, hDn, S1.grow R1 gl, [], upd_same, .nil⟩
    unfold dcAll at p1
    cases j with
    | ob n => exact p1.elim
    | en n => exact p1.elim
    | st xs =>
      simp only at p1
      split at p1
      case isFalse => exact p1.elim
      rename_i hx
      refine ⟨fun i m H => ∃ acc ι' st', i + m = xs.length + 1 ∧ i ≤ xs.length ∧ acc.length ≤ i ∧ DcAt X.K X.mg ι1 H1 D (wipeS env own) (wipe σ own) acc ι' H st' ∧ DcTo X.K X.mg W σ ι1 H1 Q (dcGo (dcTurn is one mt mk me (wipeS env own)) (xs.drop i) acc st'),
        ⟨xs.length + 1, [], ι1, st1, by omega, Nat.zero_le _, Nat.le_refl _, c0, by simpa using p1⟩, fun i m H hw => ?_⟩
      obtain ⟨acc, ι', st', hm, hl, hlen, c, pg⟩ := hw
      obtain ⟨i1, i2⟩ := ij ι' H st' i c.1 c.2.1 hl
      by_cases hlt : i < xs.length
      · have e1 : atP xs i = some xs[i] := by rw [atP_get, List.getElem?_eq_getElem hlt]
        rw [List.drop_eq_getElem_cons hlt] at pg
        obtain ⟨a1, a2⟩ := i1 xs[i] (by rw [← e1]; rfl)
        refine .inr ⟨a1, fun H' => ∃ acc' ι2 st2, acc'.length ≤ i + 1 ∧ DcAt X.K X.mg ι1 H1 D (wipeS env own) (wipe σ own) acc' ι2 H' st2 ∧ DcTo X.K X.mg W σ ι1 H1 Q (dcGo (dcTurn is one mt mk me (wipeS env own)) (xs.drop (i + 1)) acc' st2), fun H' hn => ?_, fun v H' hy => ?_⟩
        · obtain ⟨acc', ι2, st2, b1, b2, b3⟩ := hn
          exact ⟨m - 1, by omega, acc', ι2, st2, by omega, hlt, b1, b2, b3⟩
        · obtain ⟨gy, Ry, ry⟩ := a2 v H' hy
          obtain ⟨c1, c2, c3, c4, vs, c5, c6⟩ := c
          have cy : DcAt X.K X.mg ι1 H1 D (wipeS env own) (wipe σ own) acc ι' H' st' := ⟨c1.trans gy, Ry, c3, c4.grow c2 gy, vs, gy.ext _ _ c5 c3, c6.grow c2 gy⟩
          refine dc_turn rfl htt hsub hD cy ry pg _ (fun acc' ι2 H2 st2 q1 q2 q3 => ⟨acc', ι2, st2, by omega, q1, q3⟩) ?_
          show acc.length < 16777216
          omega
      · have e1 : atP xs i = none := by rw [atP_get, List.getElem?_eq_none_iff]; omega
        have e2 : xs.drop i = [] := List.drop_eq_nil_iff.mpr (by omega)
        rw [e2] at pg
        exact .inl ⟨i2 (by rw [← e1]; rfl), DcTo.ok hD pg c⟩
end

theorem se_dcm {kx vx tg iter : Expr} {ifs : List Expr} {scope : Scope} {own : List (Str × Nat)} {is : List Nat} {one : Bool} {X : Cx} {W : WX} {pos : Pos} {mI : Env → Store → Res Itr} {mt : Env → Store → Res Bool} {mk me : Env → Store → Res PV} (hc : X.calm = true) (hN : X.N.Nodup) (hi : SI X W tg iter mI) (ok : BlkOk X.N X.env.scope scope own)
    (hg : ∀ (s : Shared) (H : Hp) (C : Addr) (cl : List (Str × Addr)) (fp : List Addr), PG (X.blk s H scope (compEnvC scope cl C X.env) fp) tg (gEv X.K X.mg one is))
    (ht : ∀ (s : Shared) (H : Hp) (C : Addr) (cl : List (Str × Addr)) (fp : List Addr), PTs (X.blk s H scope (compEnvC scope cl C X.env) fp) ifs (fun σ H Q => Rd (kB (K := X.K) (mg := X.mg)) W0 mt σ H Q))
    (hk : ∀ (s : Shared) (H : Hp) (C : Addr) (cl : List (Str × Addr)) (fp : List Addr), PE (X.blk s H scope (compEnvC scope cl C X.env) fp) kx (fun σ H Q => Rd (kE (K := X.K) (mg := X.mg)) W0 mk σ H Q))
    (he : ∀ (s : Shared) (H : Hp) (C : Addr) (cl : List (Str × Addr)) (fp : List Addr), PE (X.blk s H scope (compEnvC scope cl C X.env) fp) vx (fun σ H Q => Rd (kE (K := X.K) (mg := X.mg)) W0 me σ H Q)) (hs : ∀ x, foldedSetIterable iter X.env x = pure x) (hsub : ∀ i ∈ is, i ∈ own.map (·.2)) :
    SE X W (.DictComp kx vx [⟨tg, iter, ifs, 0⟩] scope pos) (fun env st => (mI env st).bind fun j st1 => (dcAll (dcTurn is one mt mk me (wipeS env (own.map (·.2)))) j st1).bind dcEnd) :=
  (pe_dc hc hN hi ok hg ht hk he hs).imp fun _ _ _ h => dc_all (fun _ _ _ h => h) hsub (fun _ _ _ h => h) h

/-! ### {k: v, ..} -/
section
variable {X : Cx} {W : WX} {pos : Pos}
structure SPs (X : Cx) (W : WX) (pos : Pos) (ks : List Key) (keys : List (Option Expr)) (values : List Expr) (m : Env → Store → Res (List PV)) : Prop where
  run : ∃ trs, PPs X pos keys values trs ∧ ∀ (σ : L2.St) (H : Hp) (Q : List V → Hp → Prop) (Qp : List (V × V) → Hp → Prop), Rd (kA (K := X.K) (mg := X.mg)) W m σ H Q → (∀ vs H', vs.length = ks.length → Q vs H' → Qp ((ks.zip vs).map fun kv => (kV kv.1, kv.2)) H') → tPairs trs σ H Qp
theorem sps_nil : SPs X W pos [] [] [] (fun _ st => .ok [] st) :=
  ⟨[], pps_nil, fun σ H Q Qp h q => by
    obtain ⟨ι, env, st, S, R, p⟩ := h
    exact q [] H rfl (p.here R .nil)⟩
theorem sps_cons {k : Key} {ks : List Key} {kx vx : Expr} {keys : List (Option Expr)} {values : List Expr} {me : Env → Store → Res PV} {ms : Env → Store → Res (List PV)} (hk : PE X kx (fun _ H Q => Q (kV k) H)) (hv : SE X W vx me) (hr : SPs X W pos ks keys values ms) :
    SPs X W pos (k :: ks) (some kx :: keys) (vx :: values) (fun env st => (me env st).bind fun v st1 => (ms env st1).bind fun vs st2 => .ok (v :: vs) st2) := by
  obtain ⟨trs, h1, h2⟩ := hr.run
  refine ⟨_, pps_cons hk hv h1, fun σ H Q Qp h q => ?_⟩
  obtain ⟨ι, env, st, S, R, p⟩ := h
  refine ⟨ι, env, st, S, R, p.bind fun ι1 px st1 x H1 g1 R1 rx p1 => ?_⟩
  refine h2 σ H1 (fun vs H2 => Q (x :: vs) H2) _ ⟨ι1, env, st1, S.grow R g1, R1, p1.bind fun ι2 pvs st2 vs H2 g2 R2 rvs p2 => p2.here R2 (.cons (Rep.grow R1 g2 rx) rvs)⟩ fun vs H' hl hq => ?_
  have := q (x :: vs) H' (by simp [hl]) hq
  exact this
theorem merge_rep {K : PySem.W.Frag} {mg : Str → Option Value} {ι : List Addr} {H : Hp} : ∀ {ks : List Key} {pvs : List PV} {vs : List V} {acc kvs : List (Key × PV)} {kws : List (Key × V)}, mergeP acc ks pvs = some kvs → Reps K mg ι H pvs vs → RepK K mg ι H acc kws → RepK K mg ι H kvs (mergeK kws (ks.zip vs))
  | [], [], _, acc, kvs, kws, e, .nil, r => by
    simp only [mergeP, Option.some.injEq] at e
    subst e
    exact r
  | [], _ :: _, _, _, _, _, e, _, _ => by cases e
  | _ :: _, [], _, _, _, _, e, _, _ => by cases e
  | k :: ks, pv :: pvs, _, acc, kvs, kws, e, .cons h hs, r => by
    simp only [mergeP] at e
    exact merge_rep (kws := putK kws k _) e hs (r.put h)
theorem se_dsp {ks : List Key} {keys : List (Option Expr)} {values : List Expr} {ms : Env → Store → Res (List PV)} (h : SPs X W pos ks keys values ms) (hall : keys.all (·.isSome) = true) (hl : keys.length = values.length) (h0 : keys ≠ []) (hk : ks.length = keys.length) :
    SE X W (.Dict keys values pos) (fun env st => if ks.length ≤ 15 then (ms env st).bind fun xs st1 => dspEnd ks xs st1 else .stuck) := by
  by_cases h15 : ks.length ≤ 15
  · obtain ⟨trs, h1, h2⟩ := h.run
    refine (pe_disp h1 hall hl h0 (by omega)).imp fun σ H Q hh => ?_
    obtain ⟨ι, env, st, S, R, p⟩ := hh
    dsimp only at p
    rw [if_pos h15] at p
    intro pA hp
    have g0 : Grow ι H ι (upd H pA (.dK [])) := Grow.lay hp
    refine h2 σ _ (fun vs H2 => H2 pA = some (.dK []) ∧ Q (.ref pA) (upd H2 pA (.dK (mergeK [] (ks.zip vs))))) _ ⟨ι, env, st, S.grow R g0, R.lay hp, ?_⟩ fun vs H' hlen hq => ?_
    · generalize ms env st = r at p
      cases r with
      | stuck => exact p
      | exc x s => exact fun cls d ι' H' g R' rx => p cls d ι' H' (g0.trans g) R' rx
      | ok pvs st1 =>
        intro vs ι1 H1 g1 R1 rvs
        have e1 : H1 pA = some (.dK []) := g1.ext _ _ upd_same (R.fresh hp)
        have nA : pA ∉ ι1 := fun z => by
          rcases g1.new pA z with w | w
          · exact R.fresh hp w
          · rw [upd_same] at w; cases w
        refine ⟨e1, ?_⟩
        have p' : Post (kE (K := X.K) (mg := X.mg)) W σ ι H Q (dspEnd ks pvs st1) := p
        unfold dspEnd at p'
        cases em : mergeP [] ks pvs with
        | none => rw [em] at p'; exact p'.elim
        | some kvs =>
          rw [em] at p'
          have rk := merge_rep em rvs RepK.nil
          refine p' (.ref pA) (ι1 ++ [pA]) _ (((g0.trans g1).beside hp _).snoc hp) (Rel.pushO (R1.besideD e1 nA) ⟨_, upd_same, rk.1, rk.2.besideD e1⟩ nA) (.obj ?_)
          rw [← R1.len]
          simp
    · exact ⟨hq.1, ks.zip vs, rfl, by rw [List.length_zip]; omega, hq.2⟩
  · refine ⟨fun pins s σ H Q I hh => ?_⟩
    obtain ⟨ι, env, st, S, R, p⟩ := hh
    dsimp only at p
    rw [if_neg h15] at p
    exact p.elim
theorem se_dnew : SE X W (.Dict [] [] pos) (fun _ st => .ok (.obj st.n) (st.push (.dct []))) := by
  refine pe_dnewK.imp fun σ H Q h => ?_
  obtain ⟨ι, env, st, S, R, p⟩ := h
  intro pA hp
  refine p (.ref pA) (ι ++ [pA]) _ ((Grow.lay hp).snoc hp) (Rel.pushO (R.lay hp) ⟨_, upd_same, RepK.nil⟩ (R.fresh hp)) (.obj ?_)
  rw [← R.len]
  simp
end
end Ev

namespace Ev
open PySem PySem.Spec PyProof.Rows L2

/-- a def's promise where nothing is being shown: A has no guards -/
structure FnG (P : Program) (w : World) (K : PySem.W.Frag) (mg : Str → Option Value) (base : Heap) (CX : CXT) (k : Nat) (f : Addr) (fd : FuncData) (ps : List Str) (sp : Sp) : Prop where
  len : ∀ vs H Q E, sp vs H Q E → vs.length = ps.length
  run : ∀ (A : Around) (out : List PySem.Env) (s : Shared) (H : Hp) (args : Args) (us : List Value) (vs : List V) (Q : VK) (E : XK), Room k A → A.guards = some [] → Env0 P w K mg base A out s H → BindsTo s fd args (ps.zip us) → Vals vs us → sp vs H Q E →
    codeAny (model P w) A (.call (.ref f) args) (CR CX out P w H s Q E) s
theorem guards_deeper {A : Around} {env : PySem.Env} (h : A.guards = some []) : (A.deeper env).guards = some [] := by
  first
    | exact h
    | simp [Around.deeper, h]
    | (simp [Around.deeper, Around.under, h, Code.guards, Code.isGuard, pushGuards])
section
variable {CX : CXT} {P : Program} {w : World} {K : PySem.W.Frag} {mg : Str → Option Value} {base : Heap} {x qual : Str} {params : Arguments} {body : List Stmt} {scope : Scope} {dvs : List V} {kws : List (Str × V)} {f : Addr} {fd : FuncData}
theorem fnG_of {N ps : List Str} {k : Nat} {sp : Sp} (F : FunD K x qual params body scope dvs kws f fd) (Sc : FnScope N ps scope) (hlen : ∀ vs H Q E, sp vs H Q E → vs.length = ps.length)
    (hbd : ∀ (cdv : Value) (A : Around) (out : List PySem.Env) (s : Shared) (H : Hp) (vs : List V) (Q : VK) (E : XK), Room k (A.deeper (envOfC qual scope s.heap.objs.size f cdv)) → A.guards = some [] → sp vs H Q E →
      ∃ t, PSs (cxOf CX P w K mg base N qual scope f cdv A out s H E) body t ∧ t { nx := fun _ H' => Q .non H', rt := Q } (start N vs) H) : FnG P w K mg base CX (k + 1) f fd ps sp := by
  obtain ⟨oc, od, dV, kV, doc, pm, an, cdv, ct, osl, hfd, hlk, hcd, _, _⟩ := F.ex
  subst hfd
  refine ⟨hlen, fun A out s H args us vs Q E room gd en bt vv pr => ?_⟩
  have inK : K.In s.heap := en.mod.kin.keeps fun b o h => (en.bs b o h).1
  have nl : s.heap.NoLimit := en.mod.nolimit.keeps fun b o h => (en.bs b o h).1
  have kinds : ∀ y ∈ ps.zip us, scope.names.lookup y.1 = some .local ∨ (scope.names.lookup y.1 = some .cell ∧ ((cellsFrom (s.heap.objs.size + 1) scope.names []).lookup y.1).isSome = true) := by
    intro y hy
    rcases Sc.par y.1 (List.of_mem_zip hy).1 with h | h
    · exact Or.inl h
    · exact Or.inr ⟨h, PySem.W.cellsFrom_some _ _ _ (Or.inl h)⟩
  refine codeAny_call_function room.depth (inK _ _ hlk) rfl Sc.co Sc.gen rfl (PySem.W.codeRec_of inK hcd) (bt _ _ _ _ ?_)
  refine wpAny_newFunctionEnv_cells Sc.kind kinds fun env' eenv s' inC => ?_
  subst eenv
  refine ⟨nl.keeps inC.toInCall.keep, codeAny_func ?_⟩
  obtain ⟨t, pt, ht⟩ := hbd cdv A out s H vs Q E (room.deeper _) gd pr
  have J : Inv (cxOf CX P w K mg base N qual scope f cdv A out s H E) [] (start N vs) H s' := inv_start Sc room.hd en (hlen _ _ _ _ pr) vv inC
  refine wpAny_mono (pt.run [] s' (start N vs) H _ J ht) (fun fl s2 ends => ?_) fun _ _ h => h
  cases fl with
  | next =>
    obtain ⟨σ2, H2, J2, q⟩ := ends
    exact ⟨V.non, H2, J2.os, J2.bare, J2.base, J2.hok, rfl, q⟩
  | ret u =>
    obtain ⟨v, σ2, H2, J2, rv, q⟩ := ends
    exact ⟨v, H2, J2.os, J2.bare, J2.base, J2.hok, rv, q⟩
  | brk => obtain ⟨_, _, _, q⟩ := ends; exact q.elim
  | cont => obtain ⟨_, _, _, q⟩ := ends; exact q.elim
end

/-! ### what the evaluator promises of a def -/
def FPost (K : PySem.W.Frag) (mg : Str → Option Value) (ι : List Addr) (H : Hp) (Q : VK) (E : XK) : Res PV → Prop
  | .ok v st => ∀ x ι' H', Grow ι H ι' H' → Rel K mg ι' H' st → Rep K mg ι' H' v x → Q x H'
  | .exc x st => ∀ cls d ι' H', Grow ι H ι' H' → Rel K mg ι' H' st → RepX K mg ι' H' x cls d → E cls d H'
  | .stuck => False
/-- n parameters, run by m -/
def spEv (K : PySem.W.Frag) (mg : Str → Option Value) (n : Nat) (m : List PV → Store → Res PV) : Sp := fun vs H Q E =>
  ∃ ι xs st, Rel K mg ι H st ∧ Reps K mg ι H xs vs ∧ xs.length = n ∧ FPost K mg ι H Q E (m xs st)
theorem start_rel {K : PySem.W.Frag} {mg : Str → Option Value} {ι : List Addr} {H : Hp} {N : List Str} {xs : List PV} {vs : List V} (r : Reps K mg ι H xs vs) : RelS K mg ι H (startS N.length xs) (start N vs) := by
  refine ⟨?_, fun i x e => ?_⟩
  · simp [startS, L2.start, r.length]
  · have gs : ∀ (env : Env) (i : Nat) (x : PV), getS env i = some x → env[i]? = some (some x) := by
      intro env
      induction env with
      | nil => intro i x e; cases e
      | cons v r ih =>
        intro i x e
        cases i with
        | zero => simp only [getS] at e; simp [e]
        | succ i => simp only [getS] at e; simpa using ih i x e
    have e1 := gs _ _ _ e
    unfold startS at e1
    by_cases h : i < xs.length
    · rw [List.getElem?_append_left (by simpa using h), List.getElem?_map] at e1
      cases e2 : xs[i]? with
      | none => rw [e2] at e1; cases e1
      | some y =>
        rw [e2] at e1
        cases e1
        obtain ⟨v, hv, rv⟩ := Reps.get (i := i) r (by rw [atP_get]; exact e2)
        refine ⟨v, ?_, rv⟩
        have hl : i < vs.length := by rw [← r.length]; exact h
        unfold L2.start
        rw [List.getElem?_append_left (by simpa using hl), List.getElem?_map, hv]
        rfl
    · rw [List.getElem?_append_right (by simpa using h), List.getElem?_replicate] at e1
      split at e1 <;> cases e1

/-! ### the call of a def -/
/-- what a callee lets out is wished for here -/
def PassW (CX : CXT) (X : Cx) (W : WX) : Prop := ∀ (pins : List (Addr × Obj)) (σ : L2.St) (H : Hp) (s : Shared) (e : Value) (s' : Shared), Inv X pins σ H s → CX X.stack H s (fun cls d H' => W cls d σ H') e s' → X.xe e s'
section
variable {X : Cx} {W : WX} {CX : CXT} {k n : Nat} {f : Addr} {fd : FuncData} {ps : List Str} {dvs : List V} {dps : List PV} {ds : List Value} {x : Str} {p pos : Pos} {es : List Expr} {mf : List PV → Store → Res PV} {ms : Env → Store → Res (List PV)}
theorem run_fnG {pins : List (Addr × Obj)} {σ : L2.St} {H : Hp} {s : Shared} {Q : VK} {us : List Value} {vs : List V} {sp : Sp} (F : FnG X.prog X.w X.K X.mg X.base CX k f fd ps sp) (room : Room k X.A) (gd : X.A.guards = some []) (hb : Binds X.K fd ps ds) (hd : Vals dvs ds) (hx : PassW CX X W)
    (J : Inv X pins σ H s) (r : Vals vs us) (h : sp (vs ++ dvs) H Q (fun cls d H' => W cls d σ H')) : wpAny (model X.prog X.w) X.A (call (.ref f) us) (EP X pins σ Q) X.xe s := by
  have rr : Vals (vs ++ dvs) (us ++ ds) := r.append hd
  have ln : (us ++ ds).length = ps.length := by rw [← rr.length]; exact F.len _ _ _ _ h
  refine wpAny_call (codeAny_mono (F.run X.A X.stack s H ⟨us, []⟩ (us ++ ds) (vs ++ dvs) Q _ room gd J.env0 (hb s us J.kIn ln) rr h) fun res s' post => ?_)
  rcases res with e | fl
  · exact hx pins σ H s e s' J post
  · cases fl with
    | ret u => exact J.after post
    | next => exact post.elim
    | brk => exact post.elim
    | cont => exact post.elim
theorem run_ev {pins : List (Addr × Obj)} {σ : L2.St} {H : Hp} {s : Shared} {Q : VK} {us : List Value} {vs : List V} {ι : List Addr} {xs : List PV} {st : Store} (F : FnG X.prog X.w X.K X.mg X.base CX k f fd ps (spEv X.K X.mg n mf)) (room : Room k X.A) (gd : X.A.guards = some []) (hb : Binds X.K fd ps ds) (hd : Vals dvs ds)
    (hdp : ∀ ι H, Reps X.K X.mg ι H dps dvs) (hx : PassW CX X W) (hn : ∀ xs st, xs.length ≠ n → mf xs st = .stuck) (J : Inv X pins σ H s) (r : Vals vs us) (R : Rel X.K X.mg ι H st) (rx : Reps X.K X.mg ι H xs vs)
    (pp : Post (kE (K := X.K) (mg := X.mg)) W σ ι H Q (mf (xs ++ dps) st)) : wpAny (model X.prog X.w) X.A (call (.ref f) us) (EP X pins σ Q) X.xe s := by
  refine run_fnG F room gd hb hd hx J r ⟨ι, xs ++ dps, st, R, Reps.append rx (hdp ι H), ?_, ?_⟩
  · by_cases e : (xs ++ dps).length = n
    · exact e
    · rw [hn _ _ e] at pp
      exact pp.elim
  · generalize mf (xs ++ dps) st = z at pp
    cases z with
    | ok v s2 => exact fun y ι' H' g R' ry => pp y ι' H' g R' ry
    | exc y s2 => exact fun cls d ι' H' g R' ry => pp cls d ι' H' g R' ry
    | stuck => exact pp
theorem se_call {e : Expr} (F : FnG X.prog X.w X.K X.mg X.base CX k f fd ps (spEv X.K X.mg n mf)) (room : Room k X.A) (gd : X.A.guards = some []) (hg : Gl X x) (hm : X.mg x = some (.ref f)) (hk : PySem.W.keepIn X.K (.ref f) = true) (hb : Binds X.K fd ps ds) (hd : Vals dvs ds) (hdp : ∀ ι H, Reps X.K X.mg ι H dps dvs) (hx : PassW CX X W)
    (ha : SA X W (e :: es) ms) (h1 : isStar e = false) (h2 : noStar es = true) (hdb : (x == ("__debug__" : Str)) = false) (hn : ∀ xs st, xs.length ≠ n → mf xs st = .stuck) :
    SE X W (.Call (.Name x p) (e :: es) [] pos) (fun env st => (ms env st).bind fun vs st1 => mf (vs ++ dps) st1) := by
  refine ⟨fun pins s σ H Q J h => ?_⟩
  obtain ⟨ι, env, st, S, R, pp⟩ := h
  refine wpAny_Call_Name_kw (ld_glob J hg hm ?_ hdb)
  refine PySem.W.callWith_K (h₀ := X.base) J.ok.mod.kin hk (thn (ha.run pos pins s σ H (fun vs H1 => ∃ ι1 xs st1, Rel X.K X.mg ι1 H1 st1 ∧ Reps X.K X.mg ι1 H1 xs vs ∧ Post (kE (K := X.K) (mg := X.mg)) W σ ι1 H1 Q (mf (xs ++ dps) st1)) J
    ⟨ι, env, st, S, R, Post.bind (k1 := kA) pp fun ι1 xs st1 vs H1 g1 R1 rx p1 => ⟨ι1, xs, st1, R1, rx, p1⟩⟩) fun us s1 hh => ?_) (starEach_cons h1) (noStar_any h2)
  obtain ⟨vs, H1, J1, r1, ι1, xs, st1, R1, rx, p1⟩ := hh
  exact ⟨J1.kIn, run_ev F room gd hb hd hdp hx hn J1 r1 R1 rx p1⟩
theorem se_call0 (F : FnG X.prog X.w X.K X.mg X.base CX k f fd ps (spEv X.K X.mg n mf)) (room : Room k X.A) (gd : X.A.guards = some []) (hg : Gl X x) (hm : X.mg x = some (.ref f)) (hk : PySem.W.keepIn X.K (.ref f) = true) (hb : Binds X.K fd ps ds) (hd : Vals dvs ds) (hdp : ∀ ι H, Reps X.K X.mg ι H dps dvs) (hx : PassW CX X W)
    (hdb : (x == ("__debug__" : Str)) = false) (hn : ∀ xs st, xs.length ≠ n → mf xs st = .stuck) :
    SE X W (.Call (.Name x p) [] [] pos) (fun _ st => mf dps st) := by
  refine ⟨fun pins s σ H Q J h => ?_⟩
  obtain ⟨ι, env, st, S, R, pp⟩ := h
  refine wpAny_Call_Name_kw (ld_glob J hg hm ?_ hdb)
  exact PySem.W.callWith_K0 J.kIn hk (run_ev (us := []) (xs := []) F room gd hb hd hdp hx hn J .nil R .nil pp)
end
end Ev

namespace Ev
open PySem PySem.Spec L2

section
variable {X : Cx} {W : WX} {a b c : Expr} {ma mb mc m : Env → Store → Res PV} {pos : Pos} {e : Expr}
theorem rd_bl {σ : St} {H : Hp} {Q : Bool → Hp → Prop} (hb : ∀ env st x s', m env st = .ok x s' → ∃ b, x = .bl b) (h : Rd (kB (K := X.K) (mg := X.mg)) W (fun env st => boolR (m env st)) σ H Q) :
    Rd (kE (K := X.K) (mg := X.mg)) W m σ H (fun v H' => ∃ k, v = .bl k ∧ Q k H') := by
  obtain ⟨ι, env, st, S, R, p⟩ := h
  exact ⟨ι, env, st, S, R, post_boolB (hb env st) p⟩
theorem sb_isn {j : Nat} {pos' : Pos} (ha : SE X W a ma) : SB X W (.Compare a [.Is] [.Constant .none j pos'] pos) (fun env st => boolR ((ma env st).bind fun x st1 => match x with
    | .non => .ok (.bl (!false)) st1
    | _ => .ok (.bl false) st1)) := by
  refine (pt_cmp (pc_isN ha)).imp fun σ H Q h => ?_
  obtain ⟨ι, env, st, S, R, p⟩ := rd_bl (X := X) (fun env st x s' e => by
    obtain ⟨y, s1, _, e⟩ := bind_ok e
    split at e <;> (cases e; exact ⟨_, rfl⟩)) h
  refine ⟨ι, env, st, S, R, p.bind fun ι1 px st1 x H1 g1 R1 rx p1 => ?_⟩
  cases rx <;> exact p1.here R1 (.bl _)
theorem sb_isn' {j : Nat} {pos' : Pos} (ha : SE X W a ma) : SB X W (.Compare a [.IsNot] [.Constant .none j pos'] pos) (fun env st => boolR ((ma env st).bind fun x st1 => match x with
    | .non => .ok (.bl (!true)) st1
    | _ => .ok (.bl true) st1)) := by
  refine (pt_cmp (pc_notN ha)).imp fun σ H Q h => ?_
  obtain ⟨ι, env, st, S, R, p⟩ := rd_bl (X := X) (fun env st x s' e => by
    obtain ⟨y, s1, _, e⟩ := bind_ok e
    split at e <;> (cases e; exact ⟨_, rfl⟩)) h
  refine ⟨ι, env, st, S, R, p.bind fun ι1 px st1 x H1 g1 R1 rx p1 => ?_⟩
  cases rx <;> exact p1.here R1 (.bl _)
theorem sb_isb {k : Bool} {j : Nat} {pos' : Pos} (ha : SE X W a ma) : SB X W (.Compare a [.Is] [.Constant (.bool k) j pos'] pos) (fun env st => boolR ((ma env st).bind fun x st1 => match x with
    | .bl b => .ok (.bl (xor false (b == k))) st1
    | _ => .stuck)) := by
  refine (pt_cmpR op_is_bl ha pe_bl rfl).imp fun σ H Q h => ?_
  obtain ⟨ι, env, st, S, R, p⟩ := rd_bl (X := X) (fun env st x s' e => by
    obtain ⟨y, s1, _, e⟩ := bind_ok e
    split at e
    · cases e; exact ⟨_, rfl⟩
    · cases e) h
  refine ⟨ι, env, st, S, R, p.bind fun ι1 px st1 x H1 g1 R1 rx p1 => ?_⟩
  split at p1
  · rename_i b
    cases rx
    refine ⟨b, k, rfl, rfl, ?_⟩
    have e : decide (b = k) = xor false (b == k) := by cases b <;> cases k <;> rfl
    rw [e]
    exact p1.here R1 (.bl _)
  · exact p1.elim
theorem sb_isb' {k : Bool} {j : Nat} {pos' : Pos} (ha : SE X W a ma) : SB X W (.Compare a [.IsNot] [.Constant (.bool k) j pos'] pos) (fun env st => boolR ((ma env st).bind fun x st1 => match x with
    | .bl b => .ok (.bl (xor true (b == k))) st1
    | _ => .stuck)) := by
  refine (pt_cmpR op_isnot_bl ha pe_bl rfl).imp fun σ H Q h => ?_
  obtain ⟨ι, env, st, S, R, p⟩ := rd_bl (X := X) (fun env st x s' e => by
    obtain ⟨y, s1, _, e⟩ := bind_ok e
    split at e
    · cases e; exact ⟨_, rfl⟩
    · cases e) h
  refine ⟨ι, env, st, S, R, p.bind fun ι1 px st1 x H1 g1 R1 rx p1 => ?_⟩
  split at p1
  · rename_i b
    cases rx
    refine ⟨b, k, rfl, rfl, ?_⟩
    have e : (!decide (b = k)) = xor true (b == k) := by cases b <;> cases k <;> rfl
    rw [e]
    exact p1.here R1 (.bl _)
  · exact p1.elim
theorem rprEnd_bl {neg : Bool} {d e : PyData} {st s' : Store} {x : PV} (h : rprEnd neg d e st = .ok x s') : ∃ b, x = .bl b := by
  unfold rprEnd at h
  split at h
  · cases h; exact ⟨_, rfl⟩
  · cases h
theorem sb_rpr {p1 p2 p3 p4 : Pos} (hg : X.A.guards = some []) (hu : X.A.units + 64 < cLine) (hG : Gl X "repr") (hm : X.mg "repr" = none) (ha : SE X W a ma) (hb : SE X W b mb) (hs : isStar a = false) (hs' : isStar b = false) :
    SB X W (.Compare (.Call (.Name "repr" p1) [a] [] p2) [.Eq] [.Call (.Name "repr" p3) [b] [] p4] pos) (fun env st => boolR (((ma env st).bind shownD).bind fun d st1 => ((mb env st1).bind shownD).bind fun e st2 => rprEnd false d e st2)) := by
  refine (pt_cmpR op_eq (pe_repr hg hu hG hm ha hs) (pe_repr hg hu hG hm hb hs') rfl).imp fun σ H Q h => ?_
  obtain ⟨ι, env, st, S, R, p⟩ := rd_bl (X := X) (fun env st x s' e => by
    obtain ⟨y, s1, _, e⟩ := bind_ok e
    obtain ⟨y, s1, _, e⟩ := bind_ok e
    exact rprEnd_bl e) h
  refine ⟨ι, env, st, S, R, p.bind fun ι1 d st1 x H1 g1 R1 rx p1 => ?_⟩
  refine ⟨ι1, env, st1, S.grow R g1, R1, p1.bind fun ι2 e st2 y H2 g2 R2 ry p2 => ?_⟩
  obtain rfl : x = .str d.shown := rx
  obtain rfl : y = .str e.shown := ry
  unfold rprEnd at p2
  split at p2
  · rename_i hsm
    rw [sameD_eq hsm]
    refine ⟨rfl, ?_⟩
    rw [decide_eq_true rfl]
    exact p2.here R2 (.bl _)
  · exact p2.elim
theorem sb_rpr' {p1 p2 p3 p4 : Pos} (hg : X.A.guards = some []) (hu : X.A.units + 64 < cLine) (hG : Gl X "repr") (hm : X.mg "repr" = none) (ha : SE X W a ma) (hb : SE X W b mb) (hs : isStar a = false) (hs' : isStar b = false) :
    SB X W (.Compare (.Call (.Name "repr" p1) [a] [] p2) [.NotEq] [.Call (.Name "repr" p3) [b] [] p4] pos) (fun env st => boolR (((ma env st).bind shownD).bind fun d st1 => ((mb env st1).bind shownD).bind fun e st2 => rprEnd true d e st2)) := by
  refine (pt_cmpR op_ne (pe_repr hg hu hG hm ha hs) (pe_repr hg hu hG hm hb hs') rfl).imp fun σ H Q h => ?_
  obtain ⟨ι, env, st, S, R, p⟩ := rd_bl (X := X) (fun env st x s' e => by
    obtain ⟨y, s1, _, e⟩ := bind_ok e
    obtain ⟨y, s1, _, e⟩ := bind_ok e
    exact rprEnd_bl e) h
  refine ⟨ι, env, st, S, R, p.bind fun ι1 d st1 x H1 g1 R1 rx p1 => ?_⟩
  refine ⟨ι1, env, st1, S.grow R g1, R1, p1.bind fun ι2 e st2 y H2 g2 R2 ry p2 => ?_⟩
  obtain rfl : x = .str d.shown := rx
  obtain rfl : y = .str e.shown := ry
  unfold rprEnd at p2
  split at p2
  · rename_i hsm
    rw [sameD_eq hsm]
    refine ⟨rfl, ?_⟩
    rw [decide_eq_true rfl]
    exact p2.here R2 (.bl _)
  · exact p2.elim
theorem sw_of {op : BoolOp} {vs : List Expr} {m : Env → Store → Res Bool} (h : SB X W (.BoolOp op vs pos) m) : SW X W (.BoolOp op vs pos) m := ⟨fun whole pins s σ H Q I q => h.run pins s σ H Q I q⟩
theorem sb_of {m : Env → Store → Res Bool} (h : SW X W e m) : SB X W e m := h.pt
theorem se_stuck : SE X W e (fun _ _ => .stuck) := ⟨fun pins s σ H Q I h => by
  obtain ⟨ι, env, st, S, R, p⟩ := h
  exact p.elim⟩
theorem sb_stuck : SB X W e (fun _ _ => boolR .stuck) := ⟨fun pins s σ H Q I h => by
  obtain ⟨ι, env, st, S, R, p⟩ := h
  exact p.elim⟩
end
end Ev

namespace Ev
open PySem PySem.Spec L2

/-- what is known of the module: free names, constants, defs (name, number of parameters, defaults) -/
structure GI where
  blts : List Str
  cons : List (Str × PV)
  fns : List (Str × Nat × List PV)

mutual
def eqPV : PV → PV → Bool
  | .non, .non => true
  | .bl a, .bl b => a == b
  | .int a, .int b => decide (a = b)
  | .str a, .str b => decide (a = b)
  | .tup a, .tup b => eqPVs a b
  | _, _ => false
def eqPVs : List PV → List PV → Bool
  | [], [] => true
  | x :: xs, y :: ys => eqPV x y && eqPVs xs ys
  | _, _ => false
end
mutual
theorem eqPV_eq : ∀ {a b : PV}, eqPV a b = true → a = b
  | .non, b, h => by cases b <;> simp [eqPV] at h; rfl
  | .bl x, b, h => by cases b <;> simp [eqPV] at h; rw [h]
  | .int x, b, h => by cases b <;> simp [eqPV] at h; rw [h]
  | .str x, b, h => by cases b <;> simp [eqPV] at h; rw [h]
  | .tup x, b, h => by
    cases b with
    | tup y => simp only [eqPV] at h; rw [eqPVs_eq h]
    | _ => simp [eqPV] at h
  | .obj n, b, h => by simp [eqPV] at h
  | .ty t, b, h => by simp [eqPV] at h
  | .glo n, b, h => by simp [eqPV] at h
  | .rol n, b, h => by simp [eqPV] at h
  | .shw n, b, h => by simp [eqPV] at h
theorem eqPVs_eq : ∀ {a b : List PV}, eqPVs a b = true → a = b
  | [], b, h => by cases b <;> simp [eqPVs] at h; rfl
  | x :: xs, b, h => by
    cases b with
    | nil => simp [eqPVs] at h
    | cons y ys =>
      simp only [eqPVs, Bool.and_eq_true] at h
      rw [eqPV_eq h.1, eqPVs_eq h.2]
end

def glB (sc : Scope) (x : Str) : Bool := match sc.names.lookup x with
  | some .globalImplicit => true
  | _ => false
def visB (sc : Scope) (x : Str) : Bool := match sc.names.lookup x with
  | some .local => true
  | some .cell => true
  | some .free => true
  | _ => false
def okName (x : Str) : Bool := !(x == ("__debug__" : Str)) && !(x == ("__classdict__" : Str))
def bltB (G : GI) (sc : Scope) (x : Str) : Bool := glB sc x && decide (x ∈ G.blts)
def cblN : Cbl → Str
  | .tuple => "tuple" | .sum => "sum" | .all => "all" | .any => "any" | .len => "len" | .max => "max" | .min => "min"
def bltN : Blt → Str
  | .abs => "abs" | .int => "int" | .max2 => "max" | .min2 => "min" | .isi _ => "isinstance"
def isiN (t : String) (x : Str) : Bool := (t == "int" && decide (x = "int")) || (t == "bool" && decide (x = "bool")) || (t == "tuple" && decide (x = "tuple")) || (t == "str" && decide (x = "str")) || (t == "list" && decide (x = "list"))
def noSet : Expr → Bool
  | .Set _ _ _ => false
  | _ => true
def plainT : Expr → Bool
  | .UnaryOp _ _ _ => false
  | .BoolOp _ _ _ => false
  | .IfExp _ _ _ _ => false
  | .Compare _ _ _ _ => false
  | _ => true
def fnB (scope : Scope) : Str → Bool := fun x => scope.names.lookup x == some .cell
def ownP (N : List Str) (own : List Nat) : List (Str × Nat) := own.map fun i => ((N[i]?).getD "", i)
def tgC (sc : Scope) (N : List Str) (fn : Str → Bool) (one : Bool) (is : List Nat) (t : Expr) : Bool := match one with
  | true => (match t, is with
    | .Name x _, [i] => decide (N[i]? = some x) && locB sc fn x
    | _, _ => false)
  | false => (match t with
    | .Tuple es _ _ => tgOk sc N fn is es
    | _ => false)

/-- constant keys -/
def chkKs : List Key → List (Option Expr) → Bool
  | [], [] => true
  | .inl i :: ks, some (.Constant (.int j) _ _) :: r => decide (i = j) && chkKs ks r
  | .inr x :: ks, some (.Constant (.str y) _ _) :: r => decide (x = y) && chkKs ks r
  | _, _ => false
section
variable (G : GI) (N : List Str)
mutual
def chkE : E → Scope → (Str → Bool) → Expr → Bool
  | .slot i => fun sc _ ex => match ex with
    | .Name x _ => decide (N[i]? = some x) && visB sc x && okName x
    | _ => false
  | .lit v => fun _ _ ex => match ex with
    | .Constant c _ _ => (match v, c with
      | .non, .none => true
      | .bl a, .bool b => a == b
      | .int a, .int b => decide (a = b)
      | .str a, .str b => decide (a = b)
      | _, _ => false)
    | _ => false
  | .gco x v => fun sc _ ex => match ex with
    | .Name y _ => decide (x = y) && glB sc x && okName x && (match G.cons.lookup x with
      | some w => eqPV v w
      | none => false)
    | _ => false
  | .bin op a b => fun sc fn ex => match ex with
    | .BinOp x o y _ => decide (o = opOf op) && chkE a sc fn x && chkE b sc fn y
    | _ => false
  | .neg a => fun sc fn ex => match ex with
    | .UnaryOp .USub x _ => chkE a sc fn x
    | _ => false
  | .cmp op a b => fun sc fn ex => match ex with
    | .Compare x [o] [y] _ => decide (o = copOf op) && chkE a sc fn x && chkE b sc fn y && !behindInMarks (copOf op) y
    | _ => false
  | .chn o p a b c => fun sc fn ex => match ex with
    | .Compare x [o1, o2] [y, z] _ => decide (o1 = copOf o) && decide (o2 = copOf p) && chkE a sc fn x && chkE b sc fn y && chkE c sc fn z && !lastMarks [copOf o, copOf p] [y, z]
    | _ => false
  | .and a b => fun sc fn ex => match ex with
    | .BoolOp .And (x :: y :: rest) p => chkE a sc fn x && (match rest with
      | [] => chkE b sc fn y
      | z :: r => chkE b sc fn (.BoolOp .And (y :: z :: r) p))
    | _ => false
  | .or a b => fun sc fn ex => match ex with
    | .BoolOp .Or (x :: y :: rest) p => chkE a sc fn x && (match rest with
      | [] => chkE b sc fn y
      | z :: r => chkE b sc fn (.BoolOp .Or (y :: z :: r) p))
    | _ => false
  | .not a => fun sc fn ex => match ex with
    | .UnaryOp .Not x _ => chkE a sc fn x
    | _ => false
  | .ite c a b => fun sc fn ex => match ex with
    | .IfExp x y z _ => chkE c sc fn x && chkE a sc fn y && chkE b sc fn z
    | _ => false
  | .call f args dfl => fun sc fn ex => match ex with
    | .Call (.Name x _) es [] _ => (match G.fns[f]? with
      | some (y, np, ds) => decide (x = y) && glB sc x && okName x && noStar es && chkEs args sc fn es && decide (dfl.length ≤ ds.length) && eqPVs dfl (ds.drop (ds.length - dfl.length))
      | none => false)
    | _ => false
  | .blt b args => fun sc fn ex => match b with
    | .isi t => (match ex with
      | .Call (.Name x _) [y, .Name z _] [] _ => decide (x = bltN (.isi t)) && bltB G sc (bltN (.isi t)) && isiN t z && bltB G sc z && !isStar y && chkEs args sc fn [y]
      | _ => false)
    | b => (match ex with
      | .Call (.Name x _) (y :: es) [] _ => decide (x = bltN b) && bltB G sc (bltN b) && !isStar y && noStar es && chkEs args sc fn (y :: es)
      | _ => false)
  | .cbl b l => fun sc fn ex => match ex with
    | .Call (.Name x _) [y] [] _ => decide (x = cblN b) && bltB G sc (cblN b) && !isStar y && chkL l sc fn y
    | _ => false
  | .mk l => fun sc fn ex => plainT ex && chkL l sc fn ex
  | .sub a i => fun sc fn ex => match ex with
    | .Subscript x y _ => !isSlice y && chkE a sc fn x && chkE i sc fn y
    | _ => false
  | .slc a lo hi => fun sc fn ex => match ex with
    | .Subscript x (.Slice l h none _) _ => chkE a sc fn x && chkO lo sc fn l && chkO hi sc fn h
    | _ => false
  | .stp a lo hi c => fun sc fn ex => match ex with
    | .Subscript x (.Slice l h (some k) _) _ => chkE a sc fn x && chkO lo sc fn l && chkO hi sc fn h && chkE c sc fn k
    | _ => false
  | .tupd es => fun sc fn ex => match ex with
    | .Tuple xs _ _ => chkEs es sc fn xs
    | _ => false
  | .isn neg a => fun sc fn ex => match ex with
    | .Compare x [o] [.Constant .none _ _] _ => (match neg with
      | true => decide (o = .IsNot)
      | false => decide (o = .Is)) && chkE a sc fn x
    | _ => false
  | .isb neg k a => fun sc fn ex => match ex with
    | .Compare x [o] [.Constant (.bool k') _ _] _ => (match neg with
      | true => decide (o = .IsNot)
      | false => decide (o = .Is)) && decide (k = k') && chkE a sc fn x
    | _ => false
  | .rpr neg a b => fun sc fn ex => match ex with
    | .Compare (.Call (.Name r1 _) [x] [] _) [o] [.Call (.Name r2 _) [y] [] _] _ => (match neg with
      | true => decide (o = .NotEq)
      | false => decide (o = .Eq)) && decide (r1 = "repr") && decide (r2 = "repr") && bltB G sc "repr" && !isStar x && !isStar y && chkE a sc fn x && chkE b sc fn y
    | _ => false
  | .append a b => fun sc fn ex => match ex with
    | .Call (.Attribute x at_ apos) [y] [] cpos => decide (at_ = "append") && !isCall x && !isStar y && (apos.endLine == cpos.line) && chkE a sc fn x && chkE b sc fn y
    | _ => false
  | .idx a b => fun sc fn ex => match ex with
    | .Call (.Attribute x at_ apos) [y] [] cpos => decide (at_ = "index") && !isCall x && !isStar y && (apos.endLine == cpos.line) && chkE a sc fn x && chkE b sc fn y
    | _ => false
  | .shw a => fun sc fn ex => match ex with
    | .Call (.Name x _) [y] [] _ => decide (x = "repr") && bltB G sc "repr" && !isStar y && chkE a sc fn y
    | _ => false
  | .dsp ks vs => fun sc fn ex => match ex with
    | .Dict keys values _ => (match ks with
      | [] => (match keys, values, vs with
        | [], [], .nil => true
        | _, _, _ => false)
      | _ => chkKs ks keys && chkEs vs sc fn values && decide (keys.length = values.length) && noStar values)
    | _ => false
  | .dcm own tg one it ifs kx vx => fun sc fn ex => match ex with
    | .DictComp ke ve [⟨t, iter, is, asy⟩] scope _ => decide (asy = 0) && noSet iter && blkC N sc scope (ownP N own) && tg.all (fun i => own.contains i) && tgC (relS scope sc) N (fnB scope) one tg t
        && chkI it sc fn t iter && chkTs ifs (relS scope sc) (fnB scope) is && chkE kx (relS scope sc) (fnB scope) ke && chkE vx (relS scope sc) (fnB scope) ve
    | _ => false
  | .never => fun _ _ _ => true
def chkEs : Es → Scope → (Str → Bool) → List Expr → Bool
  | .nil => fun _ _ xs => match xs with
    | [] => true
    | _ => false
  | .cons e es => fun sc fn xs => match xs with
    | x :: r => !isStar x && chkE e sc fn x && chkEs es sc fn r
    | _ => false
  | .star l es => fun sc fn xs => match xs with
    | .Starred x _ :: r => chkL l sc fn x && chkEs es sc fn r
    | _ => false
def chkTs : Es → Scope → (Str → Bool) → List Expr → Bool
  | .nil => fun _ _ xs => match xs with
    | [] => true
    | _ => false
  | .cons e es => fun sc fn xs => match es, xs with
    | .nil, [x] => chkE e sc fn x
    | _, _ => false
  | .star _ _ => fun _ _ _ => false
def chkL : L → Scope → (Str → Bool) → Expr → Bool
  | .comp own tg one it ifs elt => fun sc fn ex => match ex with
    | .ListComp el [⟨t, iter, is, asy⟩] scope _ => decide (asy = 0) && noSet iter && blkC N sc scope (ownP N own) && tg.all (fun i => own.contains i) && tgC (relS scope sc) N (fnB scope) one tg t
        && chkI it sc fn t iter && chkTs ifs (relS scope sc) (fnB scope) is && chkE elt (relS scope sc) (fnB scope) el
    | _ => false
  | .disp es => fun sc fn ex => match ex with
    | .List xs _ => chkEs es sc fn xs
    | _ => false
  | .lst l => fun sc fn ex => match ex with
    | .Call (.Name x _) [y] [] _ => decide (x = "list") && bltB G sc "list" && !isStar y && chkL l sc fn y
    | _ => false
  | .val e => fun sc fn ex => chkE e sc fn ex
  | .sset l => fun sc fn ex => match ex with
    | .Call (.Name x _) [.Call (.Name z _) [y] [] _] [] _ => decide (x = "sorted") && bltB G sc "sorted" && decide (z = "set") && bltB G sc "set" && !isStar y && chkL l sc fn y
    | _ => false
def chkI : It → Scope → (Str → Bool) → Expr → Expr → Bool
  | .seq l => fun sc fn _ ex => chkL l sc fn ex
  | .rng1 a => fun sc fn _ ex => match ex with
    | .Call (.Name x _) [y] [] _ => decide (x = "range") && bltB G sc "range" && !isStar y && chkE a sc fn y
    | _ => false
  | .rng2 a b => fun sc fn _ ex => match ex with
    | .Call (.Name x _) [y, z] [] _ => decide (x = "range") && bltB G sc "range" && !isStar y && !isStar z && chkE a sc fn y && chkE b sc fn z
    | _ => false
  | .rng3 a b c => fun sc fn _ ex => match ex with
    | .Call (.Name x _) [y, z, u] [] _ => decide (x = "range") && bltB G sc "range" && !isStar y && !isStar z && !isStar u && chkE a sc fn y && chkE b sc fn z && chkE c sc fn u
    | _ => false
  | .enm l => fun sc fn t ex => match t, ex with
    | .Tuple _ _ _, .Call (.Name x _) [y] [] _ => decide (x = "enumerate") && bltB G sc "enumerate" && !isStar y && chkL l sc fn y
    | _, _ => false
  | .zip l m => fun sc fn t ex => match t, ex with
    | .Tuple _ _ _, .Call (.Name x _) [y, z] [] _ => decide (x = "zip") && bltB G sc "zip" && !isStar y && !isStar z && chkL l sc fn y && chkL m sc fn z
    | _, _ => false
def chkO : Oe → Scope → (Str → Bool) → Option Expr → Bool
  | .no => fun _ _ ex => match ex with
    | none => true
    | some _ => false
  | .so e => fun sc fn ex => match ex with
    | some x => chkE e sc fn x
    | none => false
end
end

/-! ### statements -/
def plainV : Expr → Bool
  | .ListComp .. => false
  | .SetComp .. => false
  | .DictComp .. => false
  | _ => true
def isLc : Expr → Bool
  | .ListComp .. => true
  | .DictComp .. => true
  | _ => false
def locS (sc : Scope) (x : Str) : Bool := match sc.names.lookup x with
  | some .local => true
  | _ => false
def swOk (sc : Scope) (y : Str) (py : Pos) (scope : Scope) (pos : Pos) : Bool := (match sc.kind with
    | .function => true
    | _ => false) && (match sc.names.lookup y with
    | some .local => true
    | _ => false) && (py.line == pos.line) && !(scope.names.any fun (n, k) => n == y && (k == .local || k == .cell))
/-- some name of the target is no plain local -/
def noSw (sc : Scope) (ts : List Expr) : Bool := ts.any fun t => match t with
  | .Name x _ => !locS sc x
  | _ => false
def isTup : Expr → Bool
  | .Tuple _ _ _ => true
  | _ => false
section
variable (G : GI) (N : List Str)
mutual
def chkS (sc : Scope) : S → Stmt → Bool
  | .asg i e => fun s => match s with
    | .Assign [.Name x py] v _ => decide (N[i]? = some x) && (match plainV v || (isLc v && !locS sc x) with
      | true => locB sc (fun _ => true) x && chkE G N e sc (fun _ => true) v
      | false => (match v, e with
        | .ListComp el gs scope pos, .mk l => swOk sc x py scope pos && chkL G N l sc (fun _ => true) (.ListComp el gs scope pos) && (match l with
          | .comp _ _ _ _ _ _ => true
          | _ => false)
        | _, _ => false))
    | _ => false
  | .asgT is e => fun s => match s with
    | .Assign [.Tuple ts _ _] v _ => tgOk sc N (fun _ => true) is ts && (!isTup v || noSw sc ts) && plainV v && chkE G N e sc (fun _ => true) v
    | _ => false
  | .par is es => fun s => match s with
    | .Assign [.Tuple [.Name x px, .Name y py] _ _] (.Tuple [a, b] _ _) _ => (match is with
      | [i, j] => decide (N[i]? = some x) && decide (N[j]? = some y) && decide (i ≠ j) && locS sc x && locS sc y && (py.line == px.line) && decide (x ≠ y) && !isStar a && !isStar b && (match sc.kind with
        | .function => true
        | _ => false) && !([a, b].all (foldedForSure 8)) && !([a, b].all (constantsAlone 8)) && chkEs G N es sc (fun _ => true) [a, b]
      | _ => false)
    | .Assign [.Tuple [.Name x px, .Name y py, .Name z pz] _ _] (.Tuple [a, b, c] _ _) _ => (match is with
      | [i, j, l] => decide (N[i]? = some x) && decide (N[j]? = some y) && decide (N[l]? = some z) && decide (i ≠ j) && decide (i ≠ l) && decide (j ≠ l) && locS sc x && locS sc y && locS sc z && (py.line == px.line) && (pz.line == px.line) && decide (x ≠ y) && decide (x ≠ z) && decide (y ≠ z)
          && !isStar a && !isStar b && !isStar c && (match sc.kind with
        | .function => true
        | _ => false) && !([a, b, c].all (foldedForSure 8)) && !([a, b, c].all (constantsAlone 8)) && chkEs G N es sc (fun _ => true) [a, b, c]
      | _ => false)
    | _ => false
  | .sets o i e => fun s => match s with
    | .Assign [.Subscript a b _] v _ => !isSlice b && plainV v && chkE G N e sc (fun _ => true) v && chkE G N o sc (fun _ => true) a && chkE G N i sc (fun _ => true) b
    | _ => false
  | .set2 o i p j e => fun s => match s with
    | .Assign [.Tuple [.Subscript a b _, .Subscript c d _] _ _] v _ => !isSlice b && !isSlice d && plainV v && chkE G N e sc (fun _ => true) v && chkE G N o sc (fun _ => true) a && chkE G N i sc (fun _ => true) b && chkE G N p sc (fun _ => true) c && chkE G N j sc (fun _ => true) d
    | _ => false
  | .aug i op e => fun s => match s with
    | .AugAssign (.Name x _) o v _ => decide (o = opOf op) && decide (N[i]? = some x) && locB sc (fun _ => true) x && chkE G N e sc (fun _ => true) v
    | _ => false
  | .expr e => fun s => match s with
    | .Expr v _ => plainV v && chkE G N e sc (fun _ => true) v
    | _ => false
  | .ret e => fun s => match s with
    | .Return (some v) _ => chkE G N e sc (fun _ => true) v
    | _ => false
  | .retN => fun s => match s with
    | .Return none _ => true
    | _ => false
  | .pass => fun s => match s with
    | .Pass _ => true
    | _ => false
  | .brk => fun s => match s with
    | .Break _ => true
    | _ => false
  | .cont => fun s => match s with
    | .Continue _ => true
    | _ => false
  | .ite c a b => fun s => match s with
    | .If t p q _ => chkE G N c sc (fun _ => true) t && chkSs sc a p && chkSs sc b q
    | _ => false
  | .for tg one it body => fun s => match s with
    | .For t iter p [] _ => noSet iter && tgC sc N (fun _ => true) one tg t && chkI G N it sc (fun _ => true) t iter && chkSs sc body p
    | _ => false
  | .while c body => fun s => match s with
    | .While t p [] _ => chkE G N c sc (fun _ => true) t && chkSs sc body p
    | _ => false
  | .never => fun _ => true
def chkSs (sc : Scope) : Ss → List Stmt → Bool
  | .nil => fun s => match s with
    | [] => true
    | _ => false
  | .cons s r => fun l => match l with
    | x :: xs => chkS sc s x && chkSs sc r xs
    | _ => false
end
end
end Ev

namespace Ev
open PySem PySem.Spec L2

structure Ok (G : GI) (CX : CXT) (cf : Nat → List PV → Store → Res PV) (k : Nat) (X : Cx) (W : WX) : Prop where
  nd : X.N.Nodup
  calm : X.calm = true
  room : Room k X.A
  gd : X.A.guards = some []
  pass : PassW CX X W
  cx0 : ∀ o H s e s', CX o H s (fun _ _ _ => False) e s' → False
  free : ∀ x ∈ G.blts, X.mg x = none
  con : ∀ x v, G.cons.lookup x = some v → ∃ u w, X.mg x = some u ∧ RelV w u ∧ ∀ ι H, Rep X.K X.mg ι H v w
  fns : ∀ i x np ds, G.fns[i]? = some (x, np, ds) → ∃ f fd ps, X.mg x = some (.ref f) ∧ PySem.W.keepIn X.K (.ref f) = true ∧ FnG X.prog X.w X.K X.mg X.base CX k f fd ps (spEv X.K X.mg np (cf i)) ∧ (∀ xs st, xs.length ≠ np → cf i xs st = .stuck) ∧
    ∀ j, j ≤ ds.length → ∃ us vs, Binds X.K fd ps us ∧ Vals vs us ∧ ∀ ι H, Reps X.K X.mg ι H (ds.drop j) vs
theorem Ok.blk {G : GI} {CX : CXT} {cf : Nat → List PV → Store → Res PV} {k : Nat} {X : Cx} {W : WX} (O : Ok G CX cf k X W) (s : Shared) (H : Hp) (scope : Scope) (env : PySem.Env) (fp : List Addr) : Ok G CX cf k (X.blk s H scope env fp) W0 :=
  ⟨O.nd, O.calm, O.room, O.gd, fun pins σ H1 s1 e s2 I h => O.cx0 _ _ _ _ _ h, O.cx0, O.free, O.con, O.fns⟩

theorem glB_ok {X : Cx} {x : Str} (h : glB X.env.scope x = true) : Gl X x := by
  unfold glB at h
  split at h
  · rename_i e; exact e
  · cases h
theorem visB_ok {sc : Scope} {x : Str} (h : visB sc x = true) : Vis sc x := by
  unfold visB at h
  split at h
  · rename_i e; exact .inl e
  · rename_i e; exact .inr (.inl e)
  · rename_i e; exact .inr (.inr e)
  · cases h
theorem okName_ok {x : Str} (h : okName x = true) : (x == ("__debug__" : Str)) = false ∧ (x == ("__classdict__" : Str)) = false := by
  unfold okName at h
  simpa using h
theorem bltB_ok {G : GI} {CX : CXT} {cf : Nat → List PV → Store → Res PV} {k : Nat} {X : Cx} {W : WX} (O : Ok G CX cf k X W) {x : Str} (h : bltB G X.env.scope x = true) : Gl X x ∧ X.mg x = none := by
  unfold bltB at h
  simp only [Bool.and_eq_true, decide_eq_true_eq] at h
  exact ⟨glB_ok h.1, O.free x h.2⟩
theorem noSet_ok {e : Expr} {env : PySem.Env} (h : noSet e = true) : ∀ x, foldedSetIterable e env x = pure x := by
  intro x
  cases e <;> first | rfl | (cases h)
theorem plainT_ok {e : Expr} {env : PySem.Env} (h : plainT e = true) : ∀ whole, isTrue e env whole = (do let v ← whole; standAt e.pos; holding [v] (truthy v)) := by
  intro whole
  cases e <;> first | rfl | (cases h)
theorem not_true {b : Bool} (h : (!b) = true) : b = false := by simpa using h
section
variable {X : Cx} {W : WX} {e : Expr}
theorem _root_.Ev.SE.mono {m m' : Env → Store → Res PV} (h : SE X W e m) (i : ∀ (σ : St) ι H Q env st, Post (kE (K := X.K) (mg := X.mg)) W σ ι H Q (m' env st) → Post (kE (K := X.K) (mg := X.mg)) W σ ι H Q (m env st)) : SE X W e m' :=
  L2.PE.imp h fun σ H Q ⟨ι, env, st, S, R, p⟩ => ⟨ι, env, st, S, R, i σ ι H Q env st p⟩
theorem ev_val {m : Env → Store → Res PV} (h : SE X W e m) (he : ∀ whole, isTrue e X.env whole = (do let v ← whole; standAt e.pos; holding [v] (truthy v))) : SE X W e m ∧ SB X W e (fun env st => boolR (m env st)) := ⟨h, sb_val h he⟩
theorem post_call {σ : St} {ι : List Addr} {H : Hp} {Q : VK} {r : Res (List PV)} {f : List PV → Store → Res PV} (p : Post (kE (K := X.K) (mg := X.mg)) W σ ι H Q (r.bind fun vs st => noX (f vs st))) : Post (kE (K := X.K) (mg := X.mg)) W σ ι H Q (r.bind f) := by
  cases r with
  | ok vs st =>
    simp only [Res.bind] at p ⊢
    generalize f vs st = z at p
    cases z with
    | ok a s => exact p
    | exc x s => exact p.elim
    | stuck => exact p
  | exc x s => exact p
  | stuck => exact p
theorem sg_of {is : List Nat} {one : Bool} {t : Expr} (hc : X.calm = true) (hN : X.N.Nodup) (h : tgC X.env.scope X.N X.fn one is t = true) : PG X t (gEv X.K X.mg one is) := by
  unfold tgC at h
  cases one with
  | true =>
    simp only at h
    split at h
    · simp only [Bool.and_eq_true, decide_eq_true_eq] at h
      exact sg_name hN h.1 h.2
    · cases h
  | false =>
    simp only at h
    split at h
    · exact sg_tup hc hN h
    · cases h
end

theorem chkKs_ok : ∀ {ks : List Key} {keys : List (Option Expr)}, chkKs ks keys = true → ks.length = keys.length ∧ keys.all (·.isSome) = true
  | [], [], _ => ⟨rfl, rfl⟩
  | [], _ :: _, h => by simp [chkKs] at h
  | k :: ks, [], h => by cases k <;> simp [chkKs] at h
  | k :: ks, q :: r, h => by
    unfold chkKs at h
    split at h
    · rename_i e; cases e
    · rename_i e1 e2
      cases e1; cases e2
      simp only [Bool.and_eq_true] at h
      obtain ⟨a, b⟩ := chkKs_ok h.2
      exact ⟨by simp [a], by simpa using b⟩
    · rename_i e1 e2
      cases e1; cases e2
      simp only [Bool.and_eq_true] at h
      obtain ⟨a, b⟩ := chkKs_ok h.2
      exact ⟨by simp [a], by simpa using b⟩
    · cases h
section
variable {G : GI} {CX : CXT} {cf : Nat → List PV → Store → Res PV} {k : Nat}
mutual
theorem okE : ∀ (e : E) (X : Cx) (W : WX) (ex : Expr), Ok G CX cf k X W → chkE G X.N e X.env.scope X.fn ex = true → SE X W ex (evE cf e) ∧ SB X W ex (evT cf e)
  | .slot i, X, W, ex, O, h => by
    simp only [chkE] at h
    split at h
    · simp only [Bool.and_eq_true, decide_eq_true_eq] at h
      obtain ⟨⟨h1, h2⟩, h3⟩ := h
      exact ev_val (se_slot h1 (visB_ok h2) (okName_ok h3).1 (okName_ok h3).2) fun _ => rfl
    · cases h
  | .lit v, X, W, ex, O, h => by
    simp only [chkE] at h
    split at h
    · split at h
      · exact ev_val se_non fun _ => rfl
      · obtain rfl := eq_of_beq h
        exact ev_val se_bl fun _ => rfl
      · obtain rfl := of_decide_eq_true h
        exact ev_val se_int fun _ => rfl
      · obtain rfl := of_decide_eq_true h
        exact ev_val se_str fun _ => rfl
      · cases h
    · cases h
  | .gco x v, X, W, ex, O, h => by
    simp only [chkE] at h
    split at h
    · simp only [Bool.and_eq_true, decide_eq_true_eq] at h
      obtain ⟨⟨⟨h1, h2⟩, h3⟩, h4⟩ := h
      subst h1
      split at h4
      · rename_i w e
        obtain rfl := eqPV_eq h4
        obtain ⟨u, w, m1, m2, m3⟩ := O.con _ _ e
        exact ev_val (se_glob (glB_ok h2) m1 m2 (okName_ok h3).1 m3) fun _ => rfl
      · cases h4
    · cases h
  | .bin op a b, X, W, ex, O, h => by
    simp only [chkE] at h
    split at h
    · simp only [Bool.and_eq_true, decide_eq_true_eq] at h
      obtain ⟨⟨h1, h2⟩, h3⟩ := h
      subst h1
      exact ev_val (se_op (or_bin op) (okE a X W _ O h2).1 (okE b X W _ O h3).1) fun _ => rfl
    · cases h
  | .neg a, X, W, ex, O, h => by
    simp only [chkE] at h
    split at h
    · exact ev_val (se_neg (okE a X W _ O h).1) fun _ => rfl
    · cases h
  | .cmp op a b, X, W, ex, O, h => by
    simp only [chkE] at h
    split at h
    · simp only [Bool.and_eq_true, decide_eq_true_eq] at h
      obtain ⟨⟨⟨h1, h2⟩, h3⟩, h4⟩ := h
      subst h1
      have ha := (okE a X W _ O h2).1
      have hb := (okE b X W _ O h3).1
      exact ⟨se_cmp (or_cmp O.room.units op) ha hb (not_true h4), sb_cmp O.room.units ha hb (not_true h4)⟩
    · cases h
  | .chn o p a b c, X, W, ex, O, h => by
    simp only [chkE] at h
    split at h
    · simp only [Bool.and_eq_true, decide_eq_true_eq] at h
      obtain ⟨⟨⟨⟨⟨h1, h2⟩, h3⟩, h4⟩, h5⟩, h6⟩ := h
      subst h1
      subst h2
      have ha := (okE a X W _ O h3).1
      have hb := (okE b X W _ O h4).1
      have hc := (okE c X W _ O h5).1
      exact ⟨se_chn (or_cmp O.room.units o) (or_cmp O.room.units p) ha hb hc (not_true h6), sb_chn O.room.units ha hb hc (not_true h6)⟩
    · cases h
  | .and a b, X, W, ex, O, h => by
    simp only [chkE] at h
    split at h
    · rename_i x y rest p
      simp only [Bool.and_eq_true] at h
      obtain ⟨h1, h2⟩ := h
      have ha := okE a X W _ O h1
      split at h2
      · have hb := okE b X W _ O h2
        exact ⟨se_and ha.1 (se_one hb.1), sb_of (sw_and ha.2 (sw_and1 hb.2))⟩
      · have hb := okE b X W _ O h2
        exact ⟨se_and ha.1 hb.1, sb_of (sw_and ha.2 (sw_of hb.2))⟩
    · cases h
  | .or a b, X, W, ex, O, h => by
    simp only [chkE] at h
    split at h
    · rename_i x y rest p
      simp only [Bool.and_eq_true] at h
      obtain ⟨h1, h2⟩ := h
      have ha := okE a X W _ O h1
      split at h2
      · have hb := okE b X W _ O h2
        exact ⟨se_or ha.1 (se_one hb.1), sb_of (sw_or ha.2 (sw_or1 hb.2))⟩
      · have hb := okE b X W _ O h2
        exact ⟨se_or ha.1 hb.1, sb_of (sw_or ha.2 (sw_of hb.2))⟩
    · cases h
  | .not a, X, W, ex, O, h => by
    simp only [chkE] at h
    split at h
    · have ha := okE a X W _ O h
      exact ⟨se_not ha.1, sb_not ha.2⟩
    · cases h
  | .ite c a b, X, W, ex, O, h => by
    simp only [chkE] at h
    split at h
    · simp only [Bool.and_eq_true] at h
      obtain ⟨⟨h1, h2⟩, h3⟩ := h
      have hc := okE c X W _ O h1
      have ha := okE a X W _ O h2
      have hb := okE b X W _ O h3
      exact ⟨se_ite hc.2 ha.1 hb.1, sb_ite hc.2 ha.2 hb.2⟩
    · cases h
  | .call f args dfl, X, W, ex, O, h => by
    simp only [chkE] at h
    split at h
    · rename_i x p es pos
      split at h
      · rename_i y np ds e
        simp only [Bool.and_eq_true, decide_eq_true_eq] at h
        obtain ⟨⟨⟨⟨⟨⟨h1, h2⟩, h3⟩, h4⟩, h5⟩, h6⟩, h7⟩ := h
        subst h1
        obtain ⟨fa, fd, ps, m1, m2, m3, m4, m5⟩ := O.fns f _ _ _ e
        obtain ⟨us, vs, b1, b2, b3⟩ := m5 (ds.length - dfl.length) (Nat.sub_le _ _)
        rw [← eqPVs_eq h7] at b3
        have ha := okEs args X W es O h5
        cases es with
        | nil =>
          cases args with
          | nil => exact ev_val ((se_call0 m3 O.room O.gd (glB_ok h2) m1 m2 b1 b2 b3 O.pass (okName_ok h3).1 m4).mono fun σ ι H Q env st p => post_call (X := X) (r := .ok [] st) (f := fun vs st => cf f (vs ++ dfl) st) p) fun _ => rfl
          | cons a as => simp only [chkEs] at h5; cases h5
          | star a as => simp only [chkEs] at h5; cases h5
        | cons a as =>
          simp only [noStar, Bool.and_eq_true] at h4
          exact ev_val ((se_call m3 O.room O.gd (glB_ok h2) m1 m2 b1 b2 b3 O.pass ha (not_true h4.1) h4.2 (okName_ok h3).1 m4).mono fun σ ι H Q env st p => post_call (X := X) (f := fun vs st => cf f (vs ++ dfl) st) p) fun _ => rfl
      · cases h
    · cases h
  | .blt b args, X, W, ex, O, h => by
    simp only [chkE] at h
    split at h
    · rename_i t
      split at h
      · rename_i x p1 y z p2 pos
        simp only [Bool.and_eq_true, decide_eq_true_eq] at h
        obtain ⟨⟨⟨⟨⟨h1, h2⟩, h3⟩, h4⟩, h5⟩, h6⟩ := h
        subst h1
        obtain ⟨g1, m1⟩ := bltB_ok O h2
        obtain ⟨g2, m2⟩ := bltB_ok O h4
        have key : ∀ (T : Str) (t : String), z = T → bootBuiltins T = some (.type t) → T ≠ "__name__" → (T == ("__debug__" : Str)) = false → SE X W (.Call (.Name "isinstance" p1) [y, .Name z p2] [] pos) (evE cf (.blt (.isi t) args)) := by
          intro T t e b1 b2 b3
          subst e
          cases args with
          | nil => simp only [chkEs] at h6; cases h6
          | star l es =>
            simp only [chkEs] at h6
            split at h6
            · rename_i x q r e
              cases e
              cases h5
            · cases h6
          | cons a as =>
            simp only [chkEs, Bool.and_eq_true] at h6
            cases as with
            | nil =>
              have ha := (okE a X W y O h6.1.2).1
              refine (se_isi g1 m1 g2 m2 b1 b2 b3 (.ty t) ha (not_true h5)).mono fun σ ι H Q env st p => ?_
              have e : ((evP cf (.blt (.isi t) (.cons a .nil))).1 env st) = ((evP cf a).1 env st).bind fun x st1 => evBlt (.isi t) [x] st1 := by
                show ((((evP cf a).1 env st).bind fun v st1 => (Res.ok [] st1).bind fun vs st2 => .ok (v :: vs) st2).bind fun vs st1 => evBlt (.isi t) vs st1) = _
                rw [bind_assoc]
                rfl
              exact e ▸ p
            | cons b bs => have := h6.2; simp only [chkEs] at this; cases this
            | star b bs => have := h6.2; simp only [chkEs] at this; cases this
        unfold isiN at h3
        simp only [Bool.or_eq_true, Bool.and_eq_true, decide_eq_true_eq, beq_iff_eq] at h3
        refine ev_val ?_ fun _ => rfl
        rcases h3 with (((⟨e1, e2⟩ | ⟨e1, e2⟩) | ⟨e1, e2⟩) | ⟨e1, e2⟩) | ⟨e1, e2⟩
        · subst e1; exact key "int" "int" e2 PyProof.Rows.boot_int (by decide) (by decide)
        · subst e1; exact key "bool" "bool" e2 PyProof.Rows.boot_bool (by decide) (by decide)
        · subst e1; exact key "tuple" "tuple" e2 PyProof.Rows.boot_tuple (by decide) (by decide)
        · subst e1; exact key "str" "str" e2 PyProof.Rows.boot_str (by decide) (by decide)
        · subst e1; exact key "list" "list" e2 PyProof.Rows.boot_list (by decide) (by decide)
      · cases h
    · split at h
      · simp only [Bool.and_eq_true, decide_eq_true_eq] at h
        obtain ⟨⟨⟨⟨h1, h2⟩, h3⟩, h4⟩, h5⟩ := h
        subst h1
        obtain ⟨g1, m1⟩ := bltB_ok O h2
        have ha := okEs args X W _ O h5
        refine ev_val ?_ fun _ => rfl
        cases b with
        | abs => exact se_bbB bb_abs g1 m1 PyProof.Rows.boot_abs (by decide) (by decide) ha (not_true h3) h4
        | int => exact se_bbT bb_int g1 m1 PyProof.Rows.boot_int (by decide) (by decide) ha (not_true h3) h4
        | max2 => exact se_bbB (bb_max2 O.calm) g1 m1 PyProof.Rows.boot_max (by decide) (by decide) ha (not_true h3) h4
        | min2 => exact se_bbB (bb_min2 O.calm) g1 m1 PyProof.Rows.boot_min (by decide) (by decide) ha (not_true h3) h4
        | isi t => exact (‹∀ x, Blt.isi t = Blt.isi x → False› t rfl).elim
      · cases h
  | .cbl b l, X, W, ex, O, h => by
    simp only [chkE] at h
    split at h
    · simp only [Bool.and_eq_true, decide_eq_true_eq] at h
      obtain ⟨⟨⟨h1, h2⟩, h3⟩, h4⟩ := h
      subst h1
      obtain ⟨g1, m1⟩ := bltB_ok O h2
      have ha := okL l X W _ O h4
      refine ev_val ?_ fun _ => rfl
      cases b with
      | tuple => exact se_cbT cb_tuple g1 m1 PyProof.Rows.boot_tuple (by decide) (by decide) ha (not_true h3)
      | sum => exact se_cbB (cb_sum O.calm) g1 m1 PyProof.Rows.boot_sum (by decide) (by decide) ha (not_true h3)
      | all => exact se_cbB (cb_all O.calm) g1 m1 PyProof.Rows.boot_all (by decide) (by decide) ha (not_true h3)
      | any => exact se_cbB (cb_any O.calm) g1 m1 PyProof.Rows.boot_any (by decide) (by decide) ha (not_true h3)
      | len => exact se_cbB cb_len g1 m1 (show bootBuiltins "len" = some (.builtin "len") by decide +kernel) (by decide) (by decide) ha (not_true h3)
      | max => exact se_cbB (cb_max O.calm) g1 m1 PyProof.Rows.boot_max (by decide) (by decide) ha (not_true h3)
      | min => exact se_cbB (cb_min O.calm) g1 m1 PyProof.Rows.boot_min (by decide) (by decide) ha (not_true h3)
    · cases h
  | .mk l, X, W, ex, O, h => by
    simp only [chkE] at h
    simp only [Bool.and_eq_true] at h
    exact ev_val (se_mk (okL l X W _ O h.2)) (plainT_ok h.1)
  | .sub a i, X, W, ex, O, h => by
    simp only [chkE] at h
    split at h
    · simp only [Bool.and_eq_true] at h
      obtain ⟨⟨h1, h2⟩, h3⟩ := h
      exact ev_val (se_sub (by have := O.room.units; omega) (okE a X W _ O h2).1 (okE i X W _ O h3).1 (not_true h1)) fun _ => rfl
    · cases h
  | .slc a lo hi, X, W, ex, O, h => by
    simp only [chkE] at h
    split at h
    · simp only [Bool.and_eq_true] at h
      obtain ⟨⟨h1, h2⟩, h3⟩ := h
      exact ev_val (se_slc (okE a X W _ O h1).1 (okO' lo X W _ O h2) (okO' hi X W _ O h3)) fun _ => rfl
    · cases h
  | .stp a lo hi c, X, W, ex, O, h => by
    simp only [chkE] at h
    split at h
    · simp only [Bool.and_eq_true] at h
      obtain ⟨⟨⟨h1, h2⟩, h3⟩, h4⟩ := h
      exact ev_val (se_stp (okE a X W _ O h1).1 (okO' lo X W _ O h2) (okO' hi X W _ O h3) (okE c X W _ O h4).1) fun _ => rfl
    · cases h
  | .tupd es, X, W, ex, O, h => by
    simp only [chkE] at h
    split at h
    · exact ev_val (se_tupd (okEs es X W _ O h)) fun _ => rfl
    · cases h
  | .isn neg a, X, W, ex, O, h => by
    simp only [chkE] at h
    split at h
    · simp only [Bool.and_eq_true] at h
      obtain ⟨h1, h2⟩ := h
      have ha := (okE a X W _ O h2).1
      cases neg with
      | true => obtain rfl := of_decide_eq_true h1; exact ⟨se_isn' ha, sb_isn' ha⟩
      | false => obtain rfl := of_decide_eq_true h1; exact ⟨se_isn ha, sb_isn ha⟩
    · cases h
  | .isb neg b a, X, W, ex, O, h => by
    simp only [chkE] at h
    split at h
    · simp only [Bool.and_eq_true] at h
      obtain ⟨⟨h1, h2⟩, h3⟩ := h
      obtain rfl := of_decide_eq_true h2
      have ha := (okE a X W _ O h3).1
      cases neg with
      | true => obtain rfl := of_decide_eq_true h1; exact ⟨se_isb' ha, sb_isb' ha⟩
      | false => obtain rfl := of_decide_eq_true h1; exact ⟨se_isb ha, sb_isb ha⟩
    · cases h
  | .rpr neg a b, X, W, ex, O, h => by
    simp only [chkE] at h
    split at h
    · simp only [Bool.and_eq_true] at h
      obtain ⟨⟨⟨⟨⟨⟨⟨h1, h2⟩, h3⟩, h4⟩, h5⟩, h6⟩, h7⟩, h8⟩ := h
      obtain rfl := of_decide_eq_true h2
      obtain rfl := of_decide_eq_true h3
      obtain ⟨g1, m1⟩ := bltB_ok O h4
      have ha := (okE a X W _ O h7).1
      have hb := (okE b X W _ O h8).1
      cases neg with
      | true => obtain rfl := of_decide_eq_true h1; exact ⟨se_rpr' O.gd O.room.units g1 m1 ha hb (not_true h5) (not_true h6), sb_rpr' O.gd O.room.units g1 m1 ha hb (not_true h5) (not_true h6)⟩
      | false => obtain rfl := of_decide_eq_true h1; exact ⟨se_rpr O.gd O.room.units g1 m1 ha hb (not_true h5) (not_true h6), sb_rpr O.gd O.room.units g1 m1 ha hb (not_true h5) (not_true h6)⟩
    · cases h
  | .append a b, X, W, ex, O, h => by
    simp only [chkE] at h
    split at h
    · simp only [Bool.and_eq_true] at h
      obtain ⟨⟨⟨⟨⟨h1, h2⟩, h3⟩, h4⟩, h5⟩, h6⟩ := h
      obtain rfl := of_decide_eq_true h1
      exact ev_val (se_append (okE a X W _ O h5).1 (okE b X W _ O h6).1 (not_true h2) (not_true h3) h4) fun _ => rfl
    · cases h
  | .idx a b, X, W, ex, O, h => by
    simp only [chkE] at h
    split at h
    · simp only [Bool.and_eq_true] at h
      obtain ⟨⟨⟨⟨⟨h1, h2⟩, h3⟩, h4⟩, h5⟩, h6⟩ := h
      obtain rfl := of_decide_eq_true h1
      exact ev_val (se_index (by have := O.room.un; omega) (okE a X W _ O h5).1 (okE b X W _ O h6).1 (not_true h2) (not_true h3) h4) fun _ => rfl
    · cases h
  | .shw a, X, W, ex, O, h => by
    simp only [chkE] at h
    split at h
    · simp only [Bool.and_eq_true] at h
      obtain ⟨⟨⟨h1, h2⟩, h3⟩, h4⟩ := h
      obtain rfl := of_decide_eq_true h1
      obtain ⟨g1, m1⟩ := bltB_ok O h2
      exact ev_val (se_shw O.gd O.room.units g1 m1 (okE a X W _ O h4).1 (not_true h3)) fun _ => rfl
    · cases h
  | .dsp ks vs, X, W, ex, O, h => by
    simp only [chkE] at h
    split at h
    · rename_i keys values pos
      cases ks with
      | nil =>
        simp only at h
        split at h
        · refine ev_val (se_dnew.mono fun σ ι H Q env st p => ?_) fun _ => rfl
          exact p
        · cases h
      | cons k ks =>
        simp only [Bool.and_eq_true, decide_eq_true_eq] at h
        obtain ⟨⟨⟨h1, h2⟩, h3⟩, h4⟩ := h
        obtain ⟨a1, a2⟩ := chkKs_ok h1
        refine ev_val (se_dsp (okPs vs X W (k :: ks) keys values pos O h1 h3 h4 h2) a2 h3 (fun z => ?_) a1) fun _ => rfl
        rw [z] at a1
        cases a1
    · cases h
  | .dcm own tg one it ifs kx vx, X, W, ex, O, h => by
    simp only [chkE] at h
    split at h
    · rename_i ke ve t iter is asy scope pos
      simp only [Bool.and_eq_true, List.all_eq_true] at h
      obtain ⟨⟨⟨⟨⟨⟨⟨⟨h1, h2⟩, h3⟩, h4⟩, h5⟩, h6⟩, h7⟩, h8⟩, h9⟩ := h
      obtain rfl := of_decide_eq_true h1
      have eo : (ownP X.N own).map (·.2) = own := by simp [ownP, Function.comp_def]
      have := se_dcm (pos := pos) (own := ownP X.N own) (is := tg) (one := one) (mt := evTs cf ifs) (mk := evE cf kx) (me := evE cf vx) O.calm O.nd (okI it X W t iter O h6) (blkOk_by h3)
        (fun s H C cl fp => sg_of (X := X.blk s H scope (compEnvC scope cl C X.env) fp) O.calm O.nd h5) (fun s H C cl fp => okTs ifs (X.blk s H scope (compEnvC scope cl C X.env) fp) W0 is (O.blk _ _ _ _ _) h7)
        (fun s H C cl fp => (okE kx (X.blk s H scope (compEnvC scope cl C X.env) fp) W0 ke (O.blk _ _ _ _ _) h8).1) (fun s H C cl fp => (okE vx (X.blk s H scope (compEnvC scope cl C X.env) fp) W0 ve (O.blk _ _ _ _ _) h9).1) (noSet_ok h2) (by rw [eo]; intro i hi; simpa using h4 i hi)
      rw [eo] at this
      exact ev_val this fun _ => rfl
    · cases h
  | .never, X, W, ex, O, h => ⟨se_stuck, sb_stuck⟩
theorem okPs : ∀ (es : Es) (X : Cx) (W : WX) (ks : List Key) (keys : List (Option Expr)) (values : List Expr) (pos : Pos), Ok G CX cf k X W → chkKs ks keys = true → keys.length = values.length → noStar values = true → chkEs G X.N es X.env.scope X.fn values = true → SPs X W pos ks keys values (evEs cf es)
  | .nil, X, W, ks, keys, values, pos, O, hk, hl, hn, h => by
    simp only [chkEs] at h
    split at h
    · cases keys with
      | cons q r => cases hl
      | nil =>
        cases ks with
        | cons k ks => cases k <;> simp [chkKs] at hk
        | nil => exact sps_nil
    · cases h
  | .cons e es, X, W, ks, keys, values, pos, O, hk, hl, hn, h => by
    simp only [chkEs] at h
    split at h
    · simp only [Bool.and_eq_true] at h
      have he := (okE e X W _ O h.1.2).1
      unfold chkKs at hk
      split at hk
      · cases hl
      · simp only [Bool.and_eq_true] at hk
        obtain rfl := of_decide_eq_true hk.1
        exact sps_cons (k := .inl _) pe_int he (okPs es X W _ _ _ pos O hk.2 (by simpa using hl) (by simp only [noStar, Bool.and_eq_true] at hn; exact hn.2) h.2)
      · simp only [Bool.and_eq_true] at hk
        obtain rfl := of_decide_eq_true hk.1
        exact sps_cons (k := .inr _) pe_str he (okPs es X W _ _ _ pos O hk.2 (by simpa using hl) (by simp only [noStar, Bool.and_eq_true] at hn; exact hn.2) h.2)
      · cases hk
    · cases h
  | .star l es, X, W, ks, keys, values, pos, O, hk, hl, hn, h => by
    simp only [chkEs] at h
    split at h
    · rename_i x q r
      simp [noStar, isStar] at hn
    · cases h
theorem okEs : ∀ (es : Es) (X : Cx) (W : WX) (xs : List Expr), Ok G CX cf k X W → chkEs G X.N es X.env.scope X.fn xs = true → SA X W xs (evEs cf es)
  | .nil, X, W, xs, O, h => by
    simp only [chkEs] at h
    split at h
    · exact sa_nil
    · cases h
  | .cons e es, X, W, xs, O, h => by
    simp only [chkEs] at h
    split at h
    · simp only [Bool.and_eq_true] at h
      exact sa_cons (okE e X W _ O h.1.2).1 (okEs es X W _ O h.2) (not_true h.1.1)
    · cases h
  | .star l es, X, W, xs, O, h => by
    simp only [chkEs] at h
    split at h
    · simp only [Bool.and_eq_true] at h
      exact sa_star (okL l X W _ O h.1) (okEs es X W _ O h.2)
    · cases h
theorem okTs : ∀ (es : Es) (X : Cx) (W : WX) (xs : List Expr), Ok G CX cf k X W → chkTs G X.N es X.env.scope X.fn xs = true → PTs X xs (fun σ H Q => Rd (kB (K := X.K) (mg := X.mg)) W (evTs cf es) σ H Q)
  | .nil, X, W, xs, O, h => by
    simp only [chkTs] at h
    split at h
    · exact sts_nil
    · cases h
  | .cons e es, X, W, xs, O, h => by
    cases es with
    | nil =>
      simp only [chkTs] at h
      split at h
      · exact sts_one (okE e X W _ O h).2
      · cases h
    | cons a as => simp only [chkTs] at h; cases h
    | star a as => simp only [chkTs] at h; cases h
  | .star l es, X, W, xs, O, h => by
    simp only [chkTs] at h
    cases h
theorem okL : ∀ (l : L) (X : Cx) (W : WX) (ex : Expr), Ok G CX cf k X W → chkL G X.N l X.env.scope X.fn ex = true → SQ X W ex (evL cf l)
  | .comp own tg one it ifs elt, X, W, ex, O, h => by
    simp only [chkL] at h
    split at h
    · rename_i el t iter is asy scope pos
      simp only [Bool.and_eq_true, List.all_eq_true] at h
      obtain ⟨⟨⟨⟨⟨⟨⟨h1, h2⟩, h3⟩, h4⟩, h5⟩, h6⟩, h7⟩, h8⟩ := h
      obtain rfl := of_decide_eq_true h1
      have eo : (ownP X.N own).map (·.2) = own := by simp [ownP, Function.comp_def]
      have := sq_comp (pos := pos) (own := ownP X.N own) (is := tg) (one := one) (mt := evTs cf ifs) (me := evE cf elt) O.calm O.nd (okI it X W t iter O h6) (blkOk_by h3)
        (fun s H C cl fp => sg_of (X := X.blk s H scope (compEnvC scope cl C X.env) fp) O.calm O.nd h5) (fun s H C cl fp => okTs ifs (X.blk s H scope (compEnvC scope cl C X.env) fp) W0 is (O.blk _ _ _ _ _) h7)
        (fun s H C cl fp => (okE elt (X.blk s H scope (compEnvC scope cl C X.env) fp) W0 el (O.blk _ _ _ _ _) h8).1) (noSet_ok h2) (by rw [eo]; intro i hi; simpa using h4 i hi)
      rw [eo] at this
      exact this
    · cases h
  | .disp es, X, W, ex, O, h => by
    simp only [chkL] at h
    split at h
    · exact sq_disp (okEs es X W _ O h)
    · cases h
  | .lst l, X, W, ex, O, h => by
    simp only [chkL] at h
    split at h
    · simp only [Bool.and_eq_true] at h
      obtain ⟨⟨⟨h1, h2⟩, h3⟩, h4⟩ := h
      obtain rfl := of_decide_eq_true h1
      obtain ⟨g1, m1⟩ := bltB_ok O h2
      exact sq_lst g1 m1 (okL l X W _ O h4) (not_true h3)
    · cases h
  | .val e, X, W, ex, O, h => by
    simp only [chkL] at h
    exact sq_val (okE e X W _ O h).1
  | .sset l, X, W, ex, O, h => by
    simp only [chkL] at h
    split at h
    · simp only [Bool.and_eq_true] at h
      obtain ⟨⟨⟨⟨⟨h1, h2⟩, h3⟩, h4⟩, h5⟩, h6⟩ := h
      obtain rfl := of_decide_eq_true h1
      obtain rfl := of_decide_eq_true h3
      obtain ⟨g1, m1⟩ := bltB_ok O h2
      obtain ⟨g2, m2⟩ := bltB_ok O h4
      exact sq_sset O.calm O.room.units g1 m1 g2 m2 (okL l X W _ O h6) (not_true h5)
    · cases h
theorem okI : ∀ (it : It) (X : Cx) (W : WX) (t ex : Expr), Ok G CX cf k X W → chkI G X.N it X.env.scope X.fn t ex = true → SI X W t ex (evI cf it)
  | .seq l, X, W, t, ex, O, h => by
    simp only [chkI] at h
    exact si_seq (okL l X W _ O h)
  | .rng1 a, X, W, t, ex, O, h => by
    simp only [chkI] at h
    split at h
    · simp only [Bool.and_eq_true] at h
      obtain ⟨⟨⟨h1, h2⟩, h3⟩, h4⟩ := h
      obtain rfl := of_decide_eq_true h1
      obtain ⟨g1, m1⟩ := bltB_ok O h2
      exact si_rng1 g1 m1 (okE a X W _ O h4).1 (not_true h3)
    · cases h
  | .rng2 a b, X, W, t, ex, O, h => by
    simp only [chkI] at h
    split at h
    · simp only [Bool.and_eq_true] at h
      obtain ⟨⟨⟨⟨⟨h1, h2⟩, h3⟩, h4⟩, h5⟩, h6⟩ := h
      obtain rfl := of_decide_eq_true h1
      obtain ⟨g1, m1⟩ := bltB_ok O h2
      exact si_rng2 g1 m1 (okE a X W _ O h5).1 (okE b X W _ O h6).1 (not_true h3) (not_true h4)
    · cases h
  | .rng3 a b c, X, W, t, ex, O, h => by
    simp only [chkI] at h
    split at h
    · simp only [Bool.and_eq_true] at h
      obtain ⟨⟨⟨⟨⟨⟨⟨h1, h2⟩, h3⟩, h4⟩, h5⟩, h6⟩, h7⟩, h8⟩ := h
      obtain rfl := of_decide_eq_true h1
      obtain ⟨g1, m1⟩ := bltB_ok O h2
      exact si_rng3 g1 m1 (okE a X W _ O h6).1 (okE b X W _ O h7).1 (okE c X W _ O h8).1 (not_true h3) (not_true h4) (not_true h5)
    · cases h
  | .enm l, X, W, t, ex, O, h => by
    simp only [chkI] at h
    split at h
    · simp only [Bool.and_eq_true] at h
      obtain ⟨⟨⟨h1, h2⟩, h3⟩, h4⟩ := h
      obtain rfl := of_decide_eq_true h1
      obtain ⟨g1, m1⟩ := bltB_ok O h2
      exact si_enm g1 m1 (okL l X W _ O h4) (not_true h3)
    · cases h
  | .zip l m, X, W, t, ex, O, h => by
    simp only [chkI] at h
    split at h
    · simp only [Bool.and_eq_true] at h
      obtain ⟨⟨⟨⟨⟨h1, h2⟩, h3⟩, h4⟩, h5⟩, h6⟩ := h
      obtain rfl := of_decide_eq_true h1
      obtain ⟨g1, m1⟩ := bltB_ok O h2
      exact si_zip g1 m1 (okL l X W _ O h5) (okL m X W _ O h6) (not_true h3) (not_true h4)
    · cases h
theorem okO' : ∀ (o : Oe) (X : Cx) (W : WX) (ex : Option Expr), Ok G CX cf k X W → chkO G X.N o X.env.scope X.fn ex = true → SO X W ex (evO cf o)
  | .no, X, W, ex, O, h => by
    simp only [chkO] at h
    split at h
    · exact so_none
    · cases h
  | .so e, X, W, ex, O, h => by
    simp only [chkO] at h
    split at h
    · exact so_some (okE e X W _ O h).1
    · cases h
end
end
end Ev

namespace Ev
open PySem PySem.Spec L2

theorem plainV_sw {v : Expr} {t : Option Expr} {l : Nat} {env : PySem.Env} (h : plainV v = true) : swapsWith v t l env = pure false := by
  cases v <;> first | rfl | (cases h)
theorem swOk_sw {sc : Scope} {env : PySem.Env} {y : Str} {py pos : Pos} {scope : Scope} {elt : Expr} {gs : List Comprehension} {l : Nat} (e : env.scope = sc) (h : swOk sc y py scope pos = true) :
    swapsWith (.ListComp elt gs scope pos) (some (.Name y py)) l env = pure true ∧ env.scope.names.lookup y = some .local := by
  subst e
  unfold swOk at h
  simp only [Bool.and_eq_true] at h
  obtain ⟨⟨⟨h1, h2⟩, h3⟩, h4⟩ := h
  have k1 : env.scope.kind = .function := by
    split at h1
    · assumption
    · cases h1
  have k2 : env.scope.names.lookup y = some .local := by
    split at h2
    · assumption
    · cases h2
  exact ⟨sw_true k1 k2 h3 (not_true h4), k2⟩
theorem locS_no {env : PySem.Env} {x : Str} (h : locS env.scope x = false) : (env.kindOf x == some .local) = false := by
  show (env.scope.names.lookup x == some .local) = false
  unfold locS at h
  split at h
  · cases h
  · rename_i hne
    simpa using hne
theorem plainV_sw' {v : Expr} {x : Str} {py : Pos} {l : Nat} {sc : Scope} {env : PySem.Env} (e : env.scope = sc) (h : (plainV v || (isLc v && !locS sc x)) = true) : swapsWith v (some (.Name x py)) l env = pure false := by
  subst e
  rw [Bool.or_eq_true] at h
  rcases h with h | h
  · exact plainV_sw h
  · rw [Bool.and_eq_true] at h
    have k := locS_no (not_true h.2)
    cases v with
    | ListComp el gs sc ps =>
      unfold swapsWith
      simp only [k, Bool.and_false, Bool.false_and]
    | DictComp el v2 gs sc ps =>
      unfold swapsWith
      simp only [k, Bool.and_false, Bool.false_and]
    | _ => cases h.1
theorem locS_ok {sc : Scope} {x : Str} (h : locS sc x = true) : sc.names.lookup x = some .local := by
  unfold locS at h
  split at h
  · assumption
  · cases h
theorem kind_ok {sc : Scope} (h : (match sc.kind with
    | .function => true
    | _ => false) = true) : sc.kind = .function := by
  split at h
  · assumption
  · cases h
theorem isStar_any {a : Expr} (h : isStar a = false) : (match a with
    | .Starred .. => true
    | _ => false) = false := by
  cases a <;> first | rfl | (cases h)
theorem blockKind_fn {env : PySem.Env} (h : env.scope.kind = .function) : env.blockKind = .function := by
  unfold Env.blockKind
  rw [h]
  rfl
theorem sw_par2 {env : PySem.Env} {x y : Str} {px py pt pt2 : Pos} {kt k2 : Nat} {a b : Expr} (hk : env.scope.kind = .function) (hx : env.scope.names.lookup x = some .local) (hy : env.scope.names.lookup y = some .local) (hl : (py.line == px.line) = true) (hn : x ≠ y)
    (ha : isStar a = false) (hb : isStar b = false) (hf : ([a, b].all (foldedForSure 8)) = false) (hc : ([a, b].all (constantsAlone 8)) = false) :
    swappedStores [.Tuple [.Name x px, .Name y py] kt pt] (.Tuple [a, b] k2 pt2) env = pure (some [x, y]) := by
  have kx : (env.kindOf x == some .local) = true := by show (env.scope.names.lookup x == some .local) = true; rw [hx]; rfl
  have ky : (env.kindOf y == some .local) = true := by show (env.scope.names.lookup y == some .local) = true; rw [hy]; rfl
  have hb' := blockKind_fn hk
  have hl' : py.line = px.line := eq_of_beq hl
  have bx : (env.blockKind != .function) = false := by rw [hb']; rfl
  have hd : ([x, y].eraseDups.length != [x, y].length) = false := by
    have : (y == x) = false := by simpa using (fun e => hn e.symm)
    simp [List.eraseDups_cons, this]
  unfold swappedStores
  dsimp only
  refine (if_neg ?_).trans ((if_neg ?_).trans ?_)
  · rw [bx]; simp
  · show ¬ ([a, b].any isStar = true)
    simp [ha, hb]
  · simp only [List.head?_cons, Option.map_some, Option.getD_some, Expr.pos, List.filterMap_cons, List.filterMap_nil, kx, ky, hl', beq_self_eq_true, Bool.and_self, if_true, hf, hc, hd]
    simp
theorem sw_par3 {env : PySem.Env} {x y z : Str} {px py pz pt pt2 : Pos} {kt k2 : Nat} {a b c : Expr} (hk : env.scope.kind = .function) (hx : env.scope.names.lookup x = some .local) (hy : env.scope.names.lookup y = some .local) (hz : env.scope.names.lookup z = some .local) (hl : (py.line == px.line) = true) (hl2 : (pz.line == px.line) = true) (hn : x ≠ y) (hn2 : x ≠ z) (hn3 : y ≠ z)
    (ha : isStar a = false) (hb : isStar b = false) (hc : isStar c = false) (hf : ([a, b, c].all (foldedForSure 8)) = false) (hcn : ([a, b, c].all (constantsAlone 8)) = false) :
    swappedStores [.Tuple [.Name x px, .Name y py, .Name z pz] kt pt] (.Tuple [a, b, c] k2 pt2) env = pure (some [x, y, z]) := by
  have kx : (env.kindOf x == some .local) = true := by show (env.scope.names.lookup x == some .local) = true; rw [hx]; rfl
  have ky : (env.kindOf y == some .local) = true := by show (env.scope.names.lookup y == some .local) = true; rw [hy]; rfl
  have kz : (env.kindOf z == some .local) = true := by show (env.scope.names.lookup z == some .local) = true; rw [hz]; rfl
  have hb' := blockKind_fn hk
  have hl' : py.line = px.line := eq_of_beq hl
  have hl2' : pz.line = px.line := eq_of_beq hl2
  have bx : (env.blockKind != .function) = false := by rw [hb']; rfl
  have hd : ([x, y, z].eraseDups.length != [x, y, z].length) = false := by
    have e1 : (y == x) = false := by simpa using (fun e => hn e.symm)
    have e2 : (z == x) = false := by simpa using (fun e => hn2 e.symm)
    have e3 : (z == y) = false := by simpa using (fun e => hn3 e.symm)
    simp [List.eraseDups_cons, e1, e2, e3]
  unfold swappedStores
  dsimp only
  refine (if_neg ?_).trans ((if_neg ?_).trans ?_)
  · rw [bx]; simp
  · show ¬ ([a, b, c].any isStar = true)
    simp [ha, hb, hc]
  · simp only [List.head?_cons, Option.map_some, Option.getD_some, Expr.pos, List.filterMap_cons, List.filterMap_nil, kx, ky, kz, hl', hl2', beq_self_eq_true, Bool.and_self, if_true, hf, hcn, hd]
    simp

theorem filt_lt {α β : Type} {f : α → Option β} : ∀ {l : List α}, (∃ a ∈ l, f a = none) → (l.filterMap f).length < l.length
  | [], h => by obtain ⟨a, ha, _⟩ := h; cases ha
  | x :: xs, h => by
    have le : (xs.filterMap f).length ≤ xs.length := List.length_filterMap_le _ _
    rw [List.filterMap_cons]
    cases e : f x with
    | none => simp only [List.length_cons]; omega
    | some y =>
      obtain ⟨a, ha, hf⟩ := h
      rcases List.mem_cons.mp ha with z | z
      · subst z; rw [e] at hf; cases hf
      · have := filt_lt (l := xs) ⟨a, z, hf⟩
        simp only [List.length_cons]; omega
theorem sw_none {env : PySem.Env} {ts : List Expr} {k : Nat} {p : Pos} {v : Expr} (h : noSw env.scope ts = true) : swappedStores [.Tuple ts k p] v env = pure none := by
  unfold noSw at h
  rw [List.any_eq_true] at h
  obtain ⟨t, ht, hl⟩ := h
  cases v with
  | Tuple vs k2 p2 =>
    unfold swappedStores
    dsimp only
    split
    · rfl
    · split
      · rfl
      · rw [if_pos]
        rw [Bool.or_eq_true]
        refine .inl ?_
        rw [bne_iff_ne]
        refine Nat.ne_of_lt (filt_lt ⟨t, ht, ?_⟩)
        cases t with
        | Name x px =>
          have e : (env.kindOf x == some .local) = false := by
            show (env.scope.names.lookup x == some .local) = false
            simp only [locS] at hl
            split at hl
            · cases hl
            · rename_i hne
              simpa using hne
          simp only [e, Bool.false_and, Bool.false_eq_true, if_false]
        | _ => cases hl
  | _ => rfl

theorem sw_subs {env : PySem.Env} {a b c d : Expr} {p q : Pos} {k : Nat} {pt : Pos} {v : Expr} : swappedStores [.Tuple [.Subscript a b p, .Subscript c d q] k pt] v env = pure none := by
  cases v with
  | Tuple vs k2 p2 =>
    unfold swappedStores
    dsimp only
    split
    · rfl
    · split
      · rfl
      · rfl
  | _ => rfl

section
variable {G : GI} {CX : CXT} {cf : Nat → List PV → Store → Res PV} {k : Nat} {X : Cx} {W : WX}
mutual
theorem okS (O : Ok G CX cf k X W) (hp : PassesOwn (model X.prog X.w) X.A X.env X.xe) (hf : X.fn = fun _ => true) : ∀ (s : S) (st : Stmt), chkS G X.N X.env.scope s st = true → SS X W st (evS cf s)
  | .asg i e, st, h => by
    simp only [chkS] at h
    split at h
    · rename_i x py v pos
      simp only [Bool.and_eq_true] at h
      obtain ⟨h1, h2⟩ := h
      have h1 := of_decide_eq_true h1
      split at h2
      · rename_i hv
        simp only [Bool.and_eq_true] at h2
        rw [← hf] at h2
        exact ss_asg O.nd h1 h2.1 (okE e X W _ O h2.2).1 (plainV_sw' rfl hv)
      · split at h2
        · rename_i hv el gs scope p' l _
          simp only [Bool.and_eq_true] at h2
          obtain ⟨⟨h3, h4⟩, h5⟩ := h2
          obtain ⟨s1, s2⟩ := swOk_sw rfl h3 (elt := el) (gs := gs) (l := pos.line)
          cases l with
          | comp own tg one it ifs elt =>
            simp only [chkL] at h4
            split at h4
            · rename_i el t iter is asy scope pos' e
              cases e
              simp only [Bool.and_eq_true, List.all_eq_true] at h4
              obtain ⟨⟨⟨⟨⟨⟨⟨a1, a2⟩, a3⟩, a4⟩, a5⟩, a6⟩, a7⟩, a8⟩ := h4
              obtain rfl := of_decide_eq_true a1
              have eo : (ownP X.N own).map (·.2) = own := by simp [ownP, Function.comp_def]
              rw [← hf] at a6
              have := ss_asgLc (pos := pos) (own := ownP X.N own) (is := tg) (one := one) (mt := evTs cf ifs) (me := evE cf elt) O.calm O.nd h1 s2 s1 (okI it X W t iter O a6) (blkOk_by a3)
                (fun s H C cl fp => sg_of (X := X.blk s H scope (compEnvC scope cl C X.env) fp) O.calm O.nd a5) (fun s H C cl fp => okTs ifs (X.blk s H scope (compEnvC scope cl C X.env) fp) W0 is (O.blk _ _ _ _ _) a7)
                (fun s H C cl fp => (okE elt (X.blk s H scope (compEnvC scope cl C X.env) fp) W0 el (O.blk _ _ _ _ _) a8).1) (noSet_ok a2) (by rw [eo]; intro i hi; simpa using a4 i hi)
              rw [eo] at this
              exact this
            · cases h4
          | disp es => cases h5
          | lst l => cases h5
          | val e => cases h5
          | sset l => cases h5
        · cases h2
    · cases h
  | .asgT is e, st, h => by
    simp only [chkS] at h
    split at h
    · simp only [Bool.and_eq_true] at h
      obtain ⟨⟨⟨h1, h2⟩, h3⟩, h4⟩ := h
      rw [← hf] at h1 h4
      refine ss_asgT O.calm O.nd h1 (okE e X W _ O h4).1 (by unfold swapsWithSole; exact plainV_sw h3) ?_
      simp only [Bool.or_eq_true] at h2
      rcases h2 with h2 | h2
      · rename_i v _
        cases v <;> first | rfl | (cases h2)
      · exact sw_none h2
    · cases h
  | .par is es, st, h => by
    simp only [chkS] at h
    split at h
    · split at h
      · simp only [Bool.and_eq_true, decide_eq_true_eq] at h
        obtain ⟨⟨⟨⟨⟨⟨⟨⟨⟨⟨⟨⟨h1, h2⟩, h3⟩, h4⟩, h5⟩, h6⟩, h7⟩, h8⟩, h9⟩, h10⟩, h11⟩, h12⟩, h13⟩ := h
        rw [← hf] at h13
        exact ss_par2 O.calm O.nd h1 h2 h3 (locS_ok h4) (locS_ok h5) (okEs es X W _ O h13) (sw_par2 (kind_ok h10) (locS_ok h4) (locS_ok h5) h6 h7 (not_true h8) (not_true h9) (not_true h11) (not_true h12))
      · cases h
    · split at h
      · simp only [Bool.and_eq_true, decide_eq_true_eq] at h
        obtain ⟨⟨⟨⟨⟨⟨⟨⟨⟨⟨⟨⟨⟨⟨⟨⟨⟨⟨⟨⟨h1, h2⟩, h3⟩, h4⟩, h5⟩, h6⟩, h7⟩, h8⟩, h9⟩, h10⟩, h11⟩, h12⟩, h13⟩, h14⟩, h15⟩, h16⟩, h17⟩, h18⟩, h19⟩, h20⟩, h21⟩ := h
        rw [← hf] at h21
        exact ss_par3 O.calm O.nd h1 h2 h3 h4 h5 h6 (locS_ok h7) (locS_ok h8) (locS_ok h9) (okEs es X W _ O h21) (sw_par3 (kind_ok h18) (locS_ok h7) (locS_ok h8) (locS_ok h9) h10 h11 h12 h13 h14 (not_true h15) (not_true h16) (not_true h17) (not_true h19) (not_true h20))
      · cases h
    · cases h
  | .sets o i e, st, h => by
    simp only [chkS] at h
    split at h
    · simp only [Bool.and_eq_true] at h
      obtain ⟨⟨⟨⟨h1, h2⟩, h3⟩, h4⟩, h5⟩ := h
      rw [← hf] at h3 h4 h5
      exact ss_sets (by have := O.room.units; omega) (okE e X W _ O h3).1 (okE o X W _ O h4).1 (okE i X W _ O h5).1 (not_true h1) (plainV_sw h2)
    · cases h
  | .set2 o i p j e, st, h => by
    simp only [chkS] at h
    split at h
    · simp only [Bool.and_eq_true] at h
      obtain ⟨⟨⟨⟨⟨⟨⟨h1, h2⟩, h3⟩, h4⟩, h5⟩, h6⟩, h7⟩, h8⟩ := h
      rw [← hf] at h4 h5 h6 h7 h8
      exact ss_set2 O.calm (by have := O.room.units; omega) (okE e X W _ O h4).1 (okE o X W _ O h5).1 (okE i X W _ O h6).1 (okE p X W _ O h7).1 (okE j X W _ O h8).1 (not_true h1) (not_true h2) (by unfold swapsWithSole; exact plainV_sw h3) sw_subs
    · cases h
  | .aug i op e, st, h => by
    simp only [chkS] at h
    split at h
    · simp only [Bool.and_eq_true] at h
      obtain ⟨⟨⟨h1, h2⟩, h3⟩, h4⟩ := h
      obtain rfl := of_decide_eq_true h1
      rw [← hf] at h3 h4
      exact ss_aug O.nd (of_decide_eq_true h2) h3 (okE e X W _ O h4).1
    · cases h
  | .expr e, st, h => by
    simp only [chkS] at h
    split at h
    · simp only [Bool.and_eq_true] at h
      obtain ⟨h1, h2⟩ := h
      rw [← hf] at h2
      exact ss_expr (okE e X W _ O h2).1 (plainV_sw h1)
    · cases h
  | .ret e, st, h => by
    simp only [chkS] at h
    split at h
    · rw [← hf] at h
      exact ss_ret (okE e X W _ O h).1
    · cases h
  | .retN, st, h => by
    simp only [chkS] at h
    split at h
    · exact ss_retN
    · cases h
  | .pass, st, h => by
    simp only [chkS] at h
    split at h
    · exact ss_pass
    · cases h
  | .brk, st, h => by
    simp only [chkS] at h
    split at h
    · exact ss_brk
    · cases h
  | .cont, st, h => by
    simp only [chkS] at h
    split at h
    · exact ss_cont
    · cases h
  | .ite c a b, st, h => by
    simp only [chkS] at h
    split at h
    · simp only [Bool.and_eq_true] at h
      obtain ⟨⟨h1, h2⟩, h3⟩ := h
      rw [← hf] at h1
      exact ss_if (okE c X W _ O h1).2 (okSs O hp hf a _ h2) (okSs O hp hf b _ h3)
    · cases h
  | .for tg one it body, st, h => by
    simp only [chkS] at h
    split at h
    · simp only [Bool.and_eq_true] at h
      obtain ⟨⟨⟨h1, h2⟩, h3⟩, h4⟩ := h
      rw [← hf] at h2 h3
      exact ss_for hp O.calm (okI it X W _ _ O h3) (sg_of O.calm O.nd h2) (okSs O hp hf body _ h4) (noSet_ok h1)
    · cases h
  | .while c body, st, h => by
    simp only [chkS] at h
    split at h
    · simp only [Bool.and_eq_true] at h
      obtain ⟨h1, h2⟩ := h
      rw [← hf] at h1
      exact ss_while hp (okE c X W _ O h1).2 (okSs O hp hf body _ h2)
    · cases h
  | .never, st, h => ss_never
theorem okSs (O : Ok G CX cf k X W) (hp : PassesOwn (model X.prog X.w) X.A X.env X.xe) (hf : X.fn = fun _ => true) : ∀ (s : Ss) (st : List Stmt), chkSs G X.N X.env.scope s st = true → SSs X W st (evSs cf s)
  | .nil, st, h => by
    simp only [chkSs] at h
    split at h
    · exact ss_nil
    · cases h
  | .cons s r, st, h => by
    simp only [chkSs] at h
    split at h
    · simp only [Bool.and_eq_true] at h
      exact ss_cons (okS O hp hf s _ h.1) (okSs O hp hf r _ h.2)
    · cases h
end
end
end Ev

namespace Ev
open PySem PySem.Spec PyProof.Rows L2

/-- a def of the text -/
structure DefI where
  x : Str
  ps : List Str
  N : List Str
  params : Arguments
  body : List Stmt
  scope : Scope
  dfl : List PV
def scB (N ps : List Str) (sc : Scope) : Bool := (match sc.kind with
    | .function => true
    | _ => false) && !sc.isCoroutine && !sc.isGenerator && decide N.Nodup && decide (N.take ps.length = ps) && (ps.all fun x => match sc.names.lookup x with
    | some .local => true
    | some .cell => true
    | _ => false) && (sc.names.all fun y => match y.2 with
    | .free => false
    | _ => true)
theorem scB_ok {N ps : List Str} {sc : Scope} (h : scB N ps sc = true) : FnScope N ps sc := by
  unfold scB at h
  simp only [Bool.and_eq_true, List.all_eq_true, decide_eq_true_eq] at h
  obtain ⟨⟨⟨⟨⟨⟨h1, h2⟩, h3⟩, h4⟩, h5⟩, h6⟩, h7⟩ := h
  refine ⟨kind_ok h1, not_true h2, not_true h3, h4, h5, fun x hx => ?_, fun y hy e => ?_⟩
  · have := h6 x hx
    split at this
    · rename_i e; exact .inl e
    · rename_i e; exact .inr e
    · cases this
  · have := h7 y hy
    rw [e] at this
    cases this
def chkD (G : GI) (f : Fn) (d : DefI) : Bool := decide (f.n = d.N.length) && decide (f.np = d.ps.length) && scB d.N d.ps d.scope && chkSs G d.N d.scope f.body d.body
def chkT (G : GI) : List Fn → List DefI → Bool
  | [], [] => true
  | f :: fs, d :: ds => chkD G f d && chkT G fs ds
  | _, _ => false
theorem chkT_get {G : GI} : ∀ {T : List Fn} {ds : List DefI} {i : Nat} {d : DefI}, chkT G T ds = true → ds[i]? = some d → ∃ f, nth T i = some f ∧ chkD G f d = true
  | [], [], i, d, _, h => by simp at h
  | [], _ :: _, i, d, h, _ => by simp [chkT] at h
  | _ :: _, [], i, d, h, _ => by simp [chkT] at h
  | f :: fs, d0 :: ds, i, d, h, e => by
    simp only [chkT, Bool.and_eq_true] at h
    cases i with
    | zero => simp at e; subst e; exact ⟨f, rfl, h.1⟩
    | succ i => exact chkT_get (T := fs) h.2 (by simpa using e)
/-- a def as the head tells it -/
def DefOk (K : PySem.W.Frag) (mg : Str → Option Value) (d : DefI) : Prop := ∃ (f : Addr) (fd : FuncData) (dvs : List V), FunD K d.x d.x d.params d.body d.scope dvs [] f fd ∧ mg d.x = some (.ref f) ∧
  ∀ j, j ≤ d.dfl.length → ∃ us vs, Binds K fd d.ps us ∧ Vals vs us ∧ ∀ ι H, Reps K mg ι H (d.dfl.drop j) vs
def fnsOf (ds : List DefI) : List (Str × Nat × List PV) := ds.map fun d => (d.x, d.ps.length, d.dfl)

section
variable {P : Program} {w : World} {K : PySem.W.Frag} {mg : Str → Option Value} {base : Heap} {G : GI} {T : List Fn} {ds : List DefI}
theorem evF_len {k i : Nat} {d : DefI} (hc : chkT G T ds = true) (e : ds[i]? = some d) (xs : List PV) (st : Store) (h : xs.length ≠ d.ps.length) : evF T k i xs st = .stuck := by
  cases k with
  | zero => rfl
  | succ k =>
    obtain ⟨f, e1, e2⟩ := chkT_get hc e
    simp only [chkD, Bool.and_eq_true, decide_eq_true_eq] at e2
    simp only [evF, e1]
    rw [if_neg (by rw [e2.1.1.2]; exact h)]
/-- every def keeps what the evaluator promises, to any depth -/
theorem tab_ok (hG : G.fns = fnsOf ds) (hc : chkT G T ds = true) (hd : ∀ d ∈ ds, DefOk K mg d) (hfree : ∀ x ∈ G.blts, mg x = none)
    (hcon : ∀ x v, G.cons.lookup x = some v → ∃ u w, mg x = some u ∧ RelV w u ∧ ∀ ι H, Rep K mg ι H v w) :
    ∀ (k i : Nat) (d : DefI), ds[i]? = some d → ∀ (f : Addr) (fd : FuncData) (dvs : List V), FunD K d.x d.x d.params d.body d.scope dvs [] f fd → FnG P w K mg base (fun _ _ _ _ _ _ => False) k f fd d.ps (spEv K mg d.ps.length (evF T k i)) := by
  intro k
  induction k with
  | zero =>
    intro i d e f fd dvs F
    refine ⟨fun vs H Q E h => ?_, fun A out s H args us vs Q E room gd en bt vv h => ?_⟩
    · obtain ⟨ι, xs, st, R, rx, hl, p⟩ := h
      rw [← rx.length, hl]
    · obtain ⟨ι, xs, st, R, rx, hl, p⟩ := h
      exact p.elim
  | succ k ih =>
    intro i d e f fd dvs F
    obtain ⟨fn, e1, e2⟩ := chkT_get hc e
    simp only [chkD, Bool.and_eq_true, decide_eq_true_eq] at e2
    obtain ⟨⟨⟨c1, c2⟩, c3⟩, c4⟩ := e2
    have Sc := scB_ok c3
    refine fnG_of F Sc (fun vs H Q E h => ?_) fun cdv A out s H vs Q E room gd h => ?_
    · obtain ⟨ι, xs, st, R, rx, hl, p⟩ := h
      rw [← rx.length, hl]
    · obtain ⟨ι, xs, st, R, rx, hl, p⟩ := h
      let X : Cx := cxOf (fun _ _ _ _ _ _ => False) P w K mg base d.N d.x d.scope f cdv A out s H E
      have O : Ok G (fun _ _ _ _ _ _ => False) (evF T k) k X (fun cls d _ H' => E cls d H') := by
        refine ⟨Sc.nd, rfl, room, guards_deeper gd, fun _ _ _ _ _ _ _ z => z.elim, fun _ _ _ _ _ z => z, hfree, hcon, fun j x np dd ej => ?_⟩
        rw [hG] at ej
        unfold fnsOf at ej
        rw [List.getElem?_map] at ej
        cases e3 : ds[j]? with
        | none => rw [e3] at ej; cases ej
        | some d2 =>
          rw [e3] at ej
          cases ej
          obtain ⟨f2, fd2, dvs2, F2, m2, b2⟩ := hd d2 (List.mem_of_getElem? e3)
          exact ⟨f2, fd2, d2.ps, m2, F2.kp, ih j d2 e3 f2 fd2 dvs2 F2, fun xs st hx => evF_len hc e3 xs st hx, b2⟩
      have ok := okSs O (passes_of rfl) rfl fn.body d.body c4
      refine ⟨_, ok, ι, startS d.N.length xs, st, start_rel rx, R, ?_⟩
      simp only [evF, e1] at p
      rw [if_pos (by rw [c2]; exact hl), c1] at p
      generalize evSs (evF T k) fn.body (startS d.N.length xs) st = r at p ⊢
      cases r with
      | nx env s1 => exact fun σ' ι' H' g R' S' => p .non ι' H' g R' .non
      | rt v s1 => exact fun y ι' H' g R' ry => p y ι' H' g R' ry
      | bk env s1 => exact p.elim
      | ct env s1 => exact p.elim
      | exc y env s1 => exact fun cls d σ' ι' H' g R' S' rx => p cls d ι' H' g R' rx
      | stuck => exact p.elim
end
end Ev

namespace Ev
open PySem PySem.Spec PyProof.Rows L2

/-- what a law's call ends with -/
abbrev LawEnd (s0 : Shared) : Result → Shared → Prop := fun r s' => r = .ok (.ret (.bool true)) ∧ OldK s0.heap s'.heap ∧ s'.os = s0.os ∧ AllBare s'.gens
section
variable {P : Program} {w : World} {K : PySem.W.Frag} {mg mb : Str → Option Value} {k : Nat} {fa a : Addr} {fd : FuncData} {x : Str} {sp : Sp} {s0 : Shared} {vs : List Value} {ns : List Int}
/-- over one abstract heap, in which at most the script stands -/
theorem law_over (kin : K.In s0.heap) (gl : s0.heap.Ns mainGlobals mg) (bl : s0.heap.Ns builtinsNs mb) (bb : ∀ x : Str, x ≠ "__name__" → mb x = bootBuiltins x) (nl : s0.heap.NoLimit) (gz : s0.gens = #[])
    (at_a : s0.heap.get? a = some { cls := .type "list", data := .seq vs.toArray }) (room : Room k callerA)
    (F : ∀ base : Heap, K.In base → base.Ns mainGlobals mg → FnG P w K mg base (fun _ _ _ _ _ _ => False) k fa fd [x] sp) (hbind : ∀ (s : Shared) (u : Value), BindsTo s fd ⟨[u], []⟩ [(x, u)])
    {H : Hp} (hO : Only H) (hok : HOk P w H s0.heap) (onlyA : ∀ b, H b ≠ none → b = a) (notK : H a ≠ none → K.lookup a = none)
    (hp : sp [.ref a] H (fun v _ => v = .bl true) fun _ _ _ => False) : codeAny (model P w) callerA (.call (.ref fa) ⟨[.ref a], []⟩) (LawEnd s0) s0 := by
  -- no dict is tracked, so the namespaces lie in the ground
  have dictFree : ∀ {b : Addr} {o : Obj} {es : Array DictEntry} {ep : Nat}, s0.heap.get? b = some o → o.data = .dict es ep → H b = none := by
    intro b o es ep hb hd
    by_cases hn : H b = none
    · exact hn
    · obtain rfl := onlyA b hn
      rw [at_a] at hb
      cases hb
      cases hd
  have ground : ∀ {b : Addr} {m : Str → Option Value}, s0.heap.Ns b m → (hidT s0.heap H).Ns b m := by
    rintro b m ⟨o, es, ep, h1, h2, h3⟩
    exact ⟨o, es, ep, hidT_get h1 (dictFree h1 h2), h2, h3⟩
  have kb : K.In (hidT s0.heap H) := by
    intro b o hb
    refine hidT_get (kin b o hb) ?_
    by_cases hn : H b = none
    · exact hn
    · obtain rfl := onlyA b hn
      rw [notK hn] at hb
      cases hb
  have md : Mod K mg (hidT s0.heap H) := by
    obtain ⟨mc, l1, l2⟩ := nl
    exact ⟨kb, ground gl, ⟨mb, ground bl, bb⟩, ⟨mc, ground l1, l2⟩⟩
  have en : Env0 P w K mg (hidT s0.heap H) callerA [] s0 H := by
    refine ⟨rfl, md, fun b o hb => of_hidT hb, Nat.le_of_eq (hidT_size _ _), trivial, ?_, hok, .of_eq gz⟩
    intro b hb
    cases hb
  have go := (F _ kb (ground gl)).run callerA [] s0 H ⟨[.ref a], []⟩ [.ref a] [.ref a] (fun v _ => v = .bl true) (fun _ _ _ => False) room rfl en (hbind s0 (.ref a)) (.cons rfl .nil) hp
  refine codeAny_mono go fun r s' ends => ?_
  rcases r with e | fl
  · exact ends.elim
  · cases fl with
    | next => exact ends.elim
    | brk => exact ends.elim
    | cont => exact ends.elim
    | ret u =>
      obtain ⟨v, H', e1, e2, un, hok2, rv, hv⟩ := ends
      obtain rfl : v = .bl true := hv
      obtain rfl : u = Value.bool true := rv
      refine ⟨rfl, OldK.of_keep fun b o hb => ?_, e1, e2⟩
      rcases hO b with hn | ⟨ob, xs, hz⟩
      · exact un.keep b o hb hn (fun z => nomatch z) (fun z => nomatch z)
      · have h1 := (hok b _ hz).1
        have h2 := (hok2 b _ (un.frzs b ob _ hz)).1
        rw [hb] at h1
        cases h1
        exact h2
theorem law_run (kin : K.In s0.heap) (gl : s0.heap.Ns mainGlobals mg) (bl : s0.heap.Ns builtinsNs mb) (bb : ∀ x : Str, x ≠ "__name__" → mb x = bootBuiltins x) (nl : s0.heap.NoLimit) (gz : s0.gens = #[])
    (at_a : s0.heap.get? a = some { cls := .type "list", data := .seq vs.toArray }) (hi : IntsAre vs ns) (hl : ns.length ≤ sizeLine) (room : Room k callerA)
    (F : ∀ base : Heap, K.In base → base.Ns mainGlobals mg → FnG P w K mg base (fun _ _ _ _ _ _ => False) k fa fd [x] sp) (hbind : ∀ (s : Shared) (u : Value), BindsTo s fd ⟨[u], []⟩ [(x, u)])
    (hp : ∀ H : Hp, Only H → SqR K H a (ns.map V.int) → sp [.ref a] H (fun v _ => v = .bl true) fun _ _ _ => False) : codeAny (model P w) callerA (.call (.ref fa) ⟨[.ref a], []⟩) (LawEnd s0) s0 := by
  have vals := vals_ints hi
  cases inK : K.lookup a with
  | some o =>
    have same := kin a o inK
    rw [at_a] at same
    cases same
    have none' : Only fun _ => none := fun _ => .inl rfl
    refine law_over kin gl bl bb nl gz at_a room F hbind none' (fun b u z => nomatch z) (fun b z => absurd rfl z) (fun z => absurd rfl z) (hp _ none' ?_)
    exact .inr ⟨_, vs.toArray, _, inK, rfl, rfl, rfl, by rw [List.size_toArray, hi.length]; exact hl, by simpa using vals⟩
  | none =>
    let o : Obj := { cls := .type "list", data := .seq vs.toArray }
    let H : Hp := fun b => if b = a then some (.frz o (.lst (ns.map V.int))) else none
    have ha : H a = some (.frz o (.lst (ns.map V.int))) := if_pos rfl
    have hne : ∀ {b : Addr}, b ≠ a → H b = none := fun h => if_neg h
    have hO : Only H := fun b => by
      by_cases h : b = a
      · subst h; exact .inr ⟨_, _, ha⟩
      · exact .inl (hne h)
    refine law_over kin gl bl bb nl gz at_a room F hbind hO (fun b u z => ?_) (fun b z => ?_) (fun _ => inK) (hp H hO (.inl ⟨o, ha⟩))
    · by_cases h : b = a
      · subst h
        rw [ha] at z
        cases z
        exact ⟨at_a, by rw [List.length_map]; exact hl, vs, _, vals, at_a⟩
      · rw [hne h] at z; cases z
    · by_cases h : b = a
      · exact h
      · exact absurd (hne h) z
end
/-- a law whose evaluator says True -/
theorem walk_G {l : PySem.W.OpenLaw} {n k : Nat} {q : Program} {loose : List Str} {XP : (Str → Option Value) → Heap → Prop} {YP : World → Heap → Prop} {d : DefRec} {x : Str} (hn : l.most = some n) (hn2 : n ≤ sizeLine) (hdf : d.params.defaults = []) (room : Room k callerA)
    (F : ∀ (w : World) (mg : Str → Option Value) (fa : Addr) (h : Heap), YP w h → h.Ns mainGlobals mg → mg d.name = some (.ref fa) → ∃ (K : PySem.W.Frag) (fd : FuncData) (m : List PV → Store → Res PV), K.In h ∧ (∀ (s : Shared) (u : Value), BindsTo s fd ⟨[u], []⟩ [(x, u)]) ∧
      (∀ ns : List Int, ns.length ≤ n → ∃ st, m [.rol (ns.map PV.int)] Store.empty = .ok (.bl true) st) ∧ ∀ base : Heap, K.In base → base.Ns mainGlobals mg → FnG l.prog w K mg base (fun _ _ _ _ _ _ => False) k fa fd [x] (spEv K mg 1 m)) :
    PySem.W.WalkO q loose XP YP l.row.toRowW d [] (fun f vs => PySem.call f vs) := by
  refine Att.attach_call hn hdf ?_
  intro w t0 t1 mg mb fa ob pm' cd' dc a us ns G Y h1 h2 h3 hmg hobj hints hlen hg
  obtain ⟨K, fd, m, kin, hb, hm, hF⟩ := F w mg fa _ Y G.T.g hmg
  refine law_run kin G.T.g G.T.b G.T.builtins G.T.nolimit hg hobj hints (Nat.le_trans hlen hn2) room hF hb fun H hO hS => ?_
  obtain ⟨st, e⟩ := hm ns hlen
  have reps : ∀ (ns : List Int) (ι : List Addr), Reps K mg ι H (ns.map PV.int) (ns.map V.int) := by
    intro ns ι
    induction ns with
    | nil => exact .nil
    | cons i r ih => exact .cons (.int i) ih
  refine ⟨[], [.rol (ns.map PV.int)], Store.empty, ⟨rfl, List.nodup_nil, fun n a h => by simp at h, fun n _ => Tr.get_leaf n⟩, .cons (.rol hS (reps ns [])) .nil, rfl, ?_⟩
  rw [e]
  intro y ι' H' g R ry
  cases ry
  rfl
end Ev

namespace Ev
open PySem PySem.Spec PyProof.Rows L2
section
variable {K : PySem.W.Frag} {mg : Str → Option Value} {d : DefI} {f : Addr} {fd : FuncData} {dvs : List V}
theorem defOk0 (e : d.dfl = []) (F : FunD K d.x d.x d.params d.body d.scope [] [] f fd) (m : mg d.x = some (.ref f))
    (h : ∀ (kV doc pm : Value) (an : Option Addr) (cdv ct : Value) (us : List Value), us.length = d.ps.length → bindArgs (PySem.W.fnOf d.x d.x d.params d.body d.scope .none kV doc pm an cdv ct) ⟨us, []⟩ = pure (d.ps.zip us)) : DefOk K mg d := by
  refine ⟨f, fd, [], F, m, fun j _ => ⟨[], [], F.bindsN h, .nil, fun _ _ => ?_⟩⟩
  rw [e, List.drop_nil]
  exact .nil
theorem defOkD (F : FunD K d.x d.x d.params d.body d.scope dvs [] f fd) (m : mg d.x = some (.ref f))
    (h : ∀ j, j ≤ d.dfl.length → ∃ us vs, Binds K fd d.ps us ∧ Vals vs us ∧ ∀ ι H, Reps K mg ι H (d.dfl.drop j) vs) : DefOk K mg d := ⟨f, fd, dvs, F, m, h⟩
/-- a constant as the head tells it -/
def ConOk (K : PySem.W.Frag) (mg : Str → Option Value) (q : Str × PV) : Prop := ∃ u w, mg q.1 = some u ∧ RelV w u ∧ ∀ ι H, Rep K mg ι H q.2 w
theorem con_cases : ∀ {l : List (Str × PV)} {x : Str} {v : PV}, l.lookup x = some v → (∀ q ∈ l, ConOk K mg q) → ∃ u w, mg x = some u ∧ RelV w u ∧ ∀ ι H, Rep K mg ι H v w
  | [], _, _, h, _ => by cases h
  | (y, z) :: r, x, v, h, a => by
    rw [List.lookup_cons] at h
    cases e : x == y with
    | true =>
      rw [e] at h
      have e2 : z = v := Option.some.inj h
      have := a (y, z) List.mem_cons_self
      rw [eq_of_beq e, ← e2]
      exact this
    | false =>
      rw [e] at h
      exact con_cases h fun q hq => a q (List.mem_cons_of_mem _ hq)
theorem con_int {x : Str} {i : Int} (h : ∃ t, mg x = some (.int i t)) : ConOk K mg (x, .int i) := by
  obtain ⟨t, e⟩ := h
  exact ⟨_, .int i, e, ⟨t, rfl⟩, fun _ _ => .int i⟩
theorem con_str {x z : Str} (h : ∃ t, mg x = some (.str z t)) : ConOk K mg (x, .str z) := by
  obtain ⟨t, e⟩ := h
  exact ⟨_, .str z, e, ⟨t, rfl⟩, fun _ _ => .str z⟩
end
end Ev

namespace Cyc
/-- the sum of f at 0 .. n-1 -/
def S (n : Nat) (f : Nat → Int) : Int := ((List.range n).map f).sum
theorem S_zero (f : Nat → Int) : S 0 f = 0 := rfl
theorem S_succ (n : Nat) (f : Nat → Int) : S (n + 1) f = S n f + f n := by
  unfold S
  rw [List.range_succ, List.map_append, List.sum_append]
  simp
theorem S_congr {n : Nat} {f g : Nat → Int} (h : ∀ i, i < n → f i = g i) : S n f = S n g := by
  induction n with
  | zero => rfl
  | succ n ih =>
    rw [S_succ, S_succ, ih fun i hi => h i (Nat.lt_succ_of_lt hi), h n (Nat.lt_succ_self n)]
theorem S_add (n : Nat) (f g : Nat → Int) : S n (fun i => f i + g i) = S n f + S n g := by
  induction n with
  | zero => rfl
  | succ n ih => rw [S_succ, S_succ, S_succ, ih]; omega
theorem S_sub (n : Nat) (f g : Nat → Int) : S n (fun i => f i - g i) = S n f - S n g := by
  induction n with
  | zero => rfl
  | succ n ih => rw [S_succ, S_succ, S_succ, ih]; omega
theorem S_mul (n : Nat) (c : Int) (f : Nat → Int) : S n (fun i => c * f i) = c * S n f := by
  induction n with
  | zero => simp [S_zero]
  | succ n ih => rw [S_succ, S_succ, ih, Int.mul_add]
theorem S_mul' (n : Nat) (c : Int) (f : Nat → Int) : S n (fun i => f i * c) = S n f * c := by
  rw [Int.mul_comm, ← S_mul]
  exact S_congr fun i _ => Int.mul_comm _ _
theorem S_const (n : Nat) (c : Int) : S n (fun _ => c) = n * c := by
  induction n with
  | zero => simp [S_zero]
  | succ n ih => rw [S_succ, ih, Int.natCast_add, Int.add_mul]; simp
theorem S_nil (n : Nat) : S n (fun _ => 0) = 0 := by rw [S_const]; simp
theorem S_swap (n m : Nat) (f : Nat → Nat → Int) : S n (fun i => S m (fun j => f i j)) = S m (fun j => S n (fun i => f i j)) := by
  induction n with
  | zero => simp only [S_zero]; rw [S_nil]
  | succ n ih => rw [S_succ, ih, ← S_add]; exact S_congr fun j _ => by rw [S_succ]
/-- the first of them apart -/
theorem S_head (n : Nat) (f : Nat → Int) : S (n + 1) f = f 0 + S n (fun i => f (i + 1)) := by
  induction n with
  | zero => rw [S_succ, S_zero, S_zero]; omega
  | succ n ih => rw [S_succ, ih, S_succ]; omega
theorem S_turn1 (n : Nat) (f : Nat → Int) : S n (fun i => f ((i + 1) % n)) = S n f := by
  cases n with
  | zero => rfl
  | succ n =>
    rw [S_succ, S_head, Nat.mod_self]
    have : S n (fun i => f ((i + 1) % (n + 1))) = S n (fun i => f (i + 1)) := S_congr fun i hi => by rw [Nat.mod_eq_of_lt (by omega)]
    rw [this]
    omega
/-- round and round -/
theorem S_turn (n k : Nat) (f : Nat → Int) : S n (fun i => f ((i + k) % n)) = S n f := by
  induction k with
  | zero => exact S_congr fun i hi => by rw [Nat.add_zero, Nat.mod_eq_of_lt hi]
  | succ k ih =>
    rw [← ih, ← S_turn1 n (fun i => f ((i + k) % n))]
    exact S_congr fun i hi => by
      show f ((i + (k + 1)) % n) = f (((i + 1) % n + k) % n)
      rw [Nat.mod_add_mod]
      congr 2
      omega
theorem S_rev (n : Nat) (f : Nat → Int) : S n (fun i => f (n - 1 - i)) = S n f := by
  induction n generalizing f with
  | zero => rfl
  | succ n ih =>
    rw [S_head, S_succ]
    have : S n (fun i => f (n + 1 - 1 - (i + 1))) = S n (fun i => f (n - 1 - i)) := S_congr fun i hi => by congr 1; omega
    rw [this, ih]
    have : n + 1 - 1 - 0 = n := by omega
    rw [this]
    omega
/-- backwards round -/
theorem S_mir (n k : Nat) (f : Nat → Int) : S n (fun i => f ((k + (n - i)) % n)) = S n f := by
  rw [← S_turn n (k + 1) f, ← S_rev n (fun i => f ((i + (k + 1)) % n))]
  exact S_congr fun i hi => by
    congr 2
    omega
/-- the product round the clock: one after another -/
def con (n : Nat) (f g : Nat → Int) (k : Nat) : Int := S n (fun i => f i * g ((k + (n - i)) % n))
/-- mirrored -/
def mir (n : Nat) (f : Nat → Int) (k : Nat) : Int := f ((n - k) % n)
/-- the crossed sums -/
def cro (n : Nat) (f g : Nat → Int) (k : Nat) : Int := S n (fun j => f ((j + k) % n) * g j)
theorem sub_mod_lt {n i k : Nat} (hi : i < n) : (k + (n - i)) % n < n := Nat.mod_lt _ (by omega)
theorem con_comm {n : Nat} (f g : Nat → Int) (k : Nat) : con n f g k = con n g f k := by
  unfold con
  rw [← S_mir n k (fun i => f i * g ((k + (n - i)) % n))]
  refine S_congr fun i hi => ?_
  have hn : 0 < n := by omega
  rw [Int.mul_comm]
  congr 2
  -- k + (n - (k + (n - i)) % n) is i round
  have h1 : (k + (n - i)) % n < n := Nat.mod_lt _ hn
  have h2 := Nat.div_add_mod (k + (n - i)) n
  generalize hq : (k + (n - i)) / n = q at h2
  generalize hr : (k + (n - i)) % n = r at h1 h2 ⊢
  have h3 : k + (n - r) = i + n * q := by omega
  rw [h3, Nat.add_mul_mod_self_left, Nat.mod_eq_of_lt hi]
/-- shifting the inner place -/
theorem con_at {n : Nat} (f g : Nat → Int) (k : Nat) : con n f g (k % n) = con n f g k := by
  unfold con
  exact S_congr fun i hi => by
    congr 2
    rw [Nat.mod_add_mod]
theorem con_assoc {n : Nat} (f g h : Nat → Int) (k : Nat) : con n (con n f g) h k = con n f (con n g h) k := by
  unfold con
  -- left: Σ_i (Σ_j f j g(i-j)) h(k-i) ; right: Σ_j f j Σ_i g i h(k-j-i)
  have l : ∀ i, i < n → S n (fun j => f j * g ((i + (n - j)) % n)) * h ((k + (n - i)) % n) = S n (fun j => f j * (g ((i + (n - j)) % n) * h ((k + (n - i)) % n))) := fun i _ => by
    rw [← S_mul']
    exact S_congr fun j _ => Int.mul_assoc _ _ _
  rw [S_congr l, S_swap]
  refine S_congr fun j hj => ?_
  rw [S_mul]
  congr 1
  rw [← S_turn n (n - j) (fun i => g i * h (((k + (n - j)) % n + (n - i)) % n))]
  refine S_congr fun i hi => ?_
  have hn : 0 < n := by omega
  congr 2
  have h1 : (i + (n - j)) % n < n := Nat.mod_lt _ hn
  have h2 := Nat.div_add_mod (i + (n - j)) n
  generalize (i + (n - j)) / n = q at h2
  generalize (i + (n - j)) % n = r at h1 h2 ⊢
  have e : k + (n - j) + (n - r) = k + (n - i) + n * q := by omega
  rw [Nat.mod_add_mod, e, Nat.add_mul_mod_self_left]
theorem mir_lt {n k : Nat} (h : 0 < n) : (n - k) % n < n := Nat.mod_lt _ h
theorem mir_mir {n : Nat} (f : Nat → Int) {k : Nat} (hk : k < n) : mir n (mir n f) k = f k := by
  unfold mir
  congr 1
  by_cases h : k = 0
  · subst h
    simp
  · rw [Nat.mod_eq_of_lt (by omega : n - k < n)]
    rw [Nat.mod_eq_of_lt (by omega)]
    omega
theorem con_congr {n : Nat} {f f' g g' : Nat → Int} (hf : ∀ i, i < n → f i = f' i) (hg : ∀ i, i < n → g i = g' i) (k : Nat) : con n f g k = con n f' g' k := by
  unfold con
  exact S_congr fun i hi => by rw [hf i hi, hg _ (sub_mod_lt hi)]
/-- mirroring a product mirrors its parts -/
theorem mir_con {n : Nat} (f g : Nat → Int) {k : Nat} (hk : k < n) : mir n (con n f g) k = con n (mir n f) (mir n g) k := by
  unfold mir con
  rw [← S_mir n 0 (fun i => f i * g (((n - k) % n + (n - i)) % n))]
  refine S_congr fun i hi => ?_
  rw [Nat.zero_add]
  congr 2
  have hn : 0 < n := by omega
  have h1 : (n - i) % n < n := Nat.mod_lt _ hn
  have h2 := Nat.div_add_mod (n - i) n
  generalize (n - i) / n = q at h2
  generalize (n - i) % n = r at h1 h2 ⊢
  have h3 : (k + (n - i)) % n < n := Nat.mod_lt _ hn
  have h4 := Nat.div_add_mod (k + (n - i)) n
  generalize (k + (n - i)) / n = p at h4
  generalize (k + (n - i)) % n = t at h3 h4 ⊢
  rw [Nat.mod_add_mod]
  -- n - k + (n - r) and n - t, round
  have hz : ∃ z1 z2, n - k + (n - r) + n * z1 = n - t + n * z2 := by
    refine ⟨p, 1 + q, ?_⟩
    rw [Nat.mul_add]
    omega
  obtain ⟨z1, z2, hz⟩ := hz
  rw [← Nat.add_mul_mod_self_left (n - k + (n - r)) n z1, hz, Nat.add_mul_mod_self_left]
/-- the crossed sums are a product with a mirror -/
theorem cro_con {n : Nat} (f g : Nat → Int) (k : Nat) : cro n f g k = con n f (mir n g) k := by
  unfold cro con mir
  rw [← S_turn n k (fun i => f i * g ((n - (k + (n - i)) % n) % n))]
  refine S_congr fun j hj => ?_
  congr 2
  have hn : 0 < n := by omega
  have h1 : (j + k) % n < n := Nat.mod_lt _ hn
  have h2 := Nat.div_add_mod (j + k) n
  generalize (j + k) / n = q at h2
  generalize (j + k) % n = r at h1 h2 ⊢
  have h3 : (k + (n - r)) % n < n := Nat.mod_lt _ hn
  have h4 := Nat.div_add_mod (k + (n - r)) n
  generalize (k + (n - r)) / n = p at h4
  generalize (k + (n - r)) % n = t at h3 h4 ⊢
  have hz : n - t + n * q = j + n * p := by omega
  rw [← Nat.add_mul_mod_self_left (n - t) n q, hz, Nat.add_mul_mod_self_left, Nat.mod_eq_of_lt hj]
end Cyc

namespace Cyc
theorem S_bd {n : Nat} {f : Nat → Int} {b : Nat} (h : ∀ i, i < n → (f i).natAbs ≤ b) : (S n f).natAbs ≤ n * b := by
  induction n with
  | zero => simp [S_zero]
  | succ n ih =>
    rw [S_succ]
    have h1 := ih fun i hi => h i (Nat.lt_succ_of_lt hi)
    have h2 := h n (Nat.lt_succ_self n)
    have h3 := Int.natAbs_add_le (S n f) (f n)
    rw [Nat.add_mul, Nat.one_mul]
    omega
theorem con_bd {n : Nat} {f g : Nat → Int} {b c : Nat} (hf : ∀ i, i < n → (f i).natAbs ≤ b) (hg : ∀ i, i < n → (g i).natAbs ≤ c) (k : Nat) : (con n f g k).natAbs ≤ n * (b * c) := by
  refine S_bd fun i hi => ?_
  rw [Int.natAbs_mul]
  exact Nat.mul_le_mul (hf i hi) (hg _ (sub_mod_lt hi))
theorem cro_bd {n : Nat} {f g : Nat → Int} {b c : Nat} (hf : ∀ i, i < n → (f i).natAbs ≤ b) (hg : ∀ i, i < n → (g i).natAbs ≤ c) (k : Nat) : (cro n f g k).natAbs ≤ n * (b * c) := by
  refine S_bd fun i hi => ?_
  rw [Int.natAbs_mul]
  exact Nat.mul_le_mul (hf _ (Nat.mod_lt _ (by omega))) (hg i hi)
theorem mir_bd {n : Nat} {f : Nat → Int} {b : Nat} (h0 : 0 < n) (hf : ∀ i, i < n → (f i).natAbs ≤ b) (k : Nat) : (mir n f k).natAbs ≤ b := hf _ (mir_lt h0)
theorem cro_mir {n : Nat} (f g : Nat → Int) {k : Nat} (hk : k < n) : mir n (cro n f g) k = cro n g f k := by
  have e1 : mir n (cro n f g) k = mir n (con n f (mir n g)) k := cro_con f g _
  rw [e1, mir_con f (mir n g) hk, cro_con, con_congr (fun _ _ => rfl) (fun i hi => mir_mir g hi), con_comm]
theorem cro_zero {n : Nat} (f : Nat → Int) : cro n f f 0 = S n fun i => f i * f i := by
  unfold cro
  exact S_congr fun i hi => by rw [Nat.add_zero, Nat.mod_eq_of_lt hi]
theorem cro_sum {n : Nat} (f g : Nat → Int) : S n (cro n f g) = S n f * S n g := by
  unfold cro
  rw [S_swap]
  rw [← S_mul]
  refine S_congr fun j hj => ?_
  rw [S_mul']
  congr 1
  have : S n (fun i => f ((j + i) % n)) = S n (fun i => f ((i + j) % n)) := S_congr fun i _ => by rw [Nat.add_comm]
  rw [this, S_turn]
theorem cro_oth {n : Nat} (f : Nat → Int) (k : Nat) : cro n (fun i => 1 - f i) (fun i => 1 - f i) k = cro n f f k + n - 2 * S n f := by
  unfold cro
  have e : ∀ j, j < n → (1 - f ((j + k) % n)) * (1 - f j) = (1 - f ((j + k) % n)) - (f j - f ((j + k) % n) * f j) := fun j _ => by
    rw [Int.mul_sub, Int.mul_one, Int.sub_mul, Int.one_mul]
  rw [S_congr e, S_sub, S_sub, S_sub, S_turn n k f, S_const]
  omega
theorem cro_eq_iff {n : Nat} (h0 : 0 < n) (f : Nat → Int) : ((List.range n).all fun i => cro n f f i == cro n (fun i => 1 - f i) (fun i => 1 - f i) i) = ((n : Int) == 2 * S n f) := by
  cases hb : ((n : Int) == 2 * S n f) with
  | true =>
    have e : (n : Int) = 2 * S n f := eq_of_beq hb
    rw [List.all_eq_true]
    intro i _
    rw [cro_oth, beq_iff_eq]
    omega
  | false =>
    have e : ¬ (n : Int) = 2 * S n f := by simpa using hb
    cases hc : ((List.range n).all fun i => cro n f f i == cro n (fun i => 1 - f i) (fun i => 1 - f i) i) with
    | false => rfl
    | true =>
      rw [List.all_eq_true] at hc
      have := hc 0 (List.mem_range.mpr h0)
      rw [cro_oth, beq_iff_eq] at this
      omega
/-- the echo of a product is the product of the echoes -/
theorem echo_prod {n : Nat} (f g : Nat → Int) {k : Nat} (hk : k < n) : cro n (con n f g) (con n f g) k = con n (cro n f f) (cro n g g) k := by
  rw [cro_con]
  have e1 : con n (con n f g) (mir n (con n f g)) k = con n (con n f g) (con n (mir n f) (mir n g)) k := con_congr (fun _ _ => rfl) (fun i hi => mir_con f g hi) k
  have e2 : con n (cro n f f) (cro n g g) k = con n (con n f (mir n f)) (con n g (mir n g)) k := con_congr (fun i _ => cro_con f f i) (fun i _ => cro_con g g i) k
  rw [e1, e2, con_assoc, con_assoc]
  refine con_congr (fun _ _ => rfl) (fun i _ => ?_) k
  rw [← con_assoc, ← con_assoc]
  exact con_congr (fun j _ => con_comm g (mir n f) j) (fun _ _ => rfl) i
theorem echo_prod' {n : Nat} (f g : Nat → Int) {k : Nat} (hk : k < n) : cro n (con n f (mir n g)) (con n f (mir n g)) k = con n (cro n f f) (cro n g g) k := by
  rw [echo_prod f (mir n g) hk]
  refine con_congr (fun _ _ => rfl) (fun i hi => ?_) k
  rw [cro_con, con_congr (fun _ _ => rfl) (fun j hj => mir_mir g hj), con_comm, ← cro_con]
end Cyc

namespace Cyc
/-! ### clocks led onto clocks -/
/-- what falls on c -/
def push (n : Nat) (φ : Nat → Nat) (f : Nat → Int) (c : Nat) : Int := S n (fun i => if φ i = c then f i else 0)
theorem S_pick {n : Nat} (f : Nat → Int) {a : Nat} (ha : a < n) : S n (fun i => if i = a then f i else 0) = f a := by
  induction n with
  | zero => omega
  | succ n ih =>
    rw [S_succ]
    by_cases h : a = n
    · subst h
      rw [if_pos rfl, S_congr (g := fun _ => 0) fun i hi => if_neg (by omega), S_nil]
      simp
    · rw [ih (by omega), if_neg (by omega), Int.add_zero]
theorem push_congr {n : Nat} {φ ψ : Nat → Nat} {f g : Nat → Int} (h : ∀ i, i < n → φ i = ψ i) (hf : ∀ i, i < n → f i = g i) (c : Nat) : push n φ f c = push n ψ g c := by
  unfold push
  exact S_congr fun i hi => by rw [h i hi, hf i hi]
structure Hom (n m : Nat) (φ : Nat → Nat) : Prop where
  lt : ∀ i, i < n → φ i < m
  add : ∀ i j, i < n → j < n → φ ((i + j) % n) = (φ i + φ j) % m
theorem back_iff {m a b c : Nat} (ha : a < m) (hb : b < m) (hc : c < m) : (a + b) % m = c ↔ b = (c + (m - a)) % m := by
  constructor
  · intro h
    by_cases q : a + b < m
    · rw [Nat.mod_eq_of_lt q] at h
      have e : c + (m - a) = b + m := by omega
      rw [e, Nat.add_mod_right, Nat.mod_eq_of_lt hb]
    · have e1 : (a + b) % m = a + b - m := by rw [Nat.mod_eq_sub_mod (by omega), Nat.mod_eq_of_lt (by omega)]
      have e : c + (m - a) = b := by omega
      rw [e, Nat.mod_eq_of_lt hb]
  · intro h
    by_cases q : c + (m - a) < m
    · rw [Nat.mod_eq_of_lt q] at h
      have e : a + b = c + m := by omega
      rw [e, Nat.add_mod_right, Nat.mod_eq_of_lt hc]
    · have e1 : (c + (m - a)) % m = c + (m - a) - m := by rw [Nat.mod_eq_sub_mod (by omega), Nat.mod_eq_of_lt (by omega)]
      have e : a + b = c := by omega
      rw [e, Nat.mod_eq_of_lt hc]
theorem push_con {n m : Nat} {φ : Nat → Nat} (h : Hom n m φ) (f g : Nat → Int) {c : Nat} (hc : c < m) : push n φ (con n f g) c = con m (push n φ f) (push n φ g) c := by
  -- both are the sum of f i * g j over (φ i + φ j) % m = c
  have l : push n φ (con n f g) c = S n (fun i => S n (fun j => if (φ i + φ j) % m = c then f i * g j else 0)) := by
    unfold push con
    have e1 : ∀ k, k < n → (if φ k = c then S n (fun i => f i * g ((k + (n - i)) % n)) else 0) = S n (fun i => if φ k = c then f i * g ((k + (n - i)) % n) else 0) := fun k _ => by
      by_cases q : φ k = c
      · simp only [if_pos q]
      · simp only [if_neg q, S_nil]
    rw [S_congr e1, S_swap]
    refine S_congr fun i hi => ?_
    -- k = (i + j) % n
    rw [← S_turn n i (fun k => if φ k = c then f i * g ((k + (n - i)) % n) else 0)]
    refine S_congr fun j hj => ?_
    have hn : 0 < n := by omega
    have e2 : ((j + i) % n + (n - i)) % n = j := by
      rw [Nat.mod_add_mod]
      have : j + i + (n - i) = j + n := by omega
      rw [this, Nat.add_mod_right, Nat.mod_eq_of_lt hj]
    rw [e2, Nat.add_comm j i, h.add i j hi hj]
  have r : con m (push n φ f) (push n φ g) c = S n (fun i => S n (fun j => if (φ i + φ j) % m = c then f i * g j else 0)) := by
    unfold con push
    have e1 : ∀ a, a < m → S n (fun i => if φ i = a then f i else 0) * S n (fun i => if φ i = (c + (m - a)) % m then g i else 0) = S n (fun i => S n (fun j => if φ i = a then (if φ j = (c + (m - a)) % m then f i * g j else 0) else 0)) := fun a _ => by
      rw [← S_mul']
      refine S_congr fun i _ => ?_
      by_cases q : φ i = a
      · simp only [if_pos q]
        rw [← S_mul]
        refine S_congr fun j _ => ?_
        by_cases q2 : φ j = (c + (m - a)) % m
        · simp only [if_pos q2]
        · simp only [if_neg q2, Int.mul_zero]
      · simp only [if_neg q, Int.zero_mul, S_nil]
    rw [S_congr e1, S_swap]
    refine S_congr fun i hi => ?_
    rw [S_swap]
    refine S_congr fun j hj => ?_
    have e2 : ∀ a, a < m → (if φ i = a then (if φ j = (c + (m - a)) % m then f i * g j else 0) else 0) = if a = φ i then (if φ j = (c + (m - φ i)) % m then f i * g j else 0) else 0 := fun a _ => by
      by_cases q : φ i = a
      · rw [if_pos q, if_pos q.symm, q]
      · rw [if_neg q, if_neg (Ne.symm q)]
    rw [S_congr e2, S_pick (fun _ => _) (h.lt i hi)]
    by_cases q : (φ i + φ j) % m = c
    · rw [if_pos q, if_pos ((back_iff (h.lt i hi) (h.lt j hj) hc).mp q)]
    · rw [if_neg q, if_neg fun z => q ((back_iff (h.lt i hi) (h.lt j hj) hc).mpr z)]
  rw [l, r]
theorem Hom.zero {n m : Nat} {φ : Nat → Nat} (h : Hom n m φ) (h0 : 0 < n) : φ 0 = 0 := by
  have e := h.add 0 0 h0 h0
  rw [Nat.zero_add, Nat.zero_mod] at e
  have l := h.lt 0 h0
  by_cases q : φ 0 + φ 0 < m
  · rw [Nat.mod_eq_of_lt q] at e; omega
  · rw [Nat.mod_eq_sub_mod (by omega), Nat.mod_eq_of_lt (by omega)] at e; omega
theorem Hom.neg {n m : Nat} {φ : Nat → Nat} (h : Hom n m φ) {i : Nat} (hi : i < n) : φ ((n - i) % n) = (m - φ i) % m := by
  have h0 : 0 < n := by omega
  have l := h.lt i hi
  have l2 := h.lt _ (Nat.mod_lt (n - i) h0)
  have e := h.add i ((n - i) % n) hi (Nat.mod_lt _ h0)
  have e0 : (i + (n - i) % n) % n = 0 := by
    rw [Nat.add_mod_mod]
    have : i + (n - i) = n := by omega
    rw [this, Nat.mod_self]
  rw [e0, h.zero h0] at e
  have := (back_iff l l2 (by omega : 0 < m)).mp e.symm
  rw [Nat.zero_add] at this
  exact this
theorem push_mir {n m : Nat} {φ : Nat → Nat} (h : Hom n m φ) (f : Nat → Int) {c : Nat} (hc : c < m) : push n φ (mir n f) c = mir m (push n φ f) c := by
  unfold push mir
  dsimp only
  rw [← S_mir n 0 (fun i => if φ i = (m - c) % m then f i else 0)]
  refine S_congr fun i hi => ?_
  rw [Nat.zero_add, h.neg hi]
  have l := h.lt i hi
  have e : φ i = c ↔ (m - φ i) % m = (m - c) % m := by
    have p1 : ∀ a, a < m → (m - a) % m = if a = 0 then 0 else m - a := fun a ha => by
      by_cases q : a = 0
      · subst q; rw [if_pos rfl, Nat.sub_zero, Nat.mod_self]
      · rw [if_neg q, Nat.mod_eq_of_lt (by omega)]
    rw [p1 _ l, p1 _ hc]
    split <;> split <;> omega
  by_cases q : φ i = c
  · rw [if_pos q, if_pos (e.mp q)]
  · rw [if_neg q, if_neg fun z => q (e.mpr z)]
theorem push_cro {n m : Nat} {φ : Nat → Nat} (h : Hom n m φ) (f g : Nat → Int) {c : Nat} (hc : c < m) : push n φ (cro n f g) c = cro m (push n φ f) (push n φ g) c := by
  rw [cro_con, push_congr (fun _ _ => rfl) (fun i _ => cro_con f g i), push_con h f _ hc]
  exact con_congr (fun _ _ => rfl) (fun i hi => push_mir h g hi) c
theorem push_bd {n : Nat} {φ : Nat → Nat} {f : Nat → Int} {b : Nat} (hf : ∀ i, i < n → (f i).natAbs ≤ b) (c : Nat) : (push n φ f c).natAbs ≤ n * b := by
  unfold push
  refine S_bd fun i hi => ?_
  split
  · exact hf i hi
  · simp
/-! the leadings -/
theorem hom_fold {n d : Nat} (h0 : 0 < d) (hd : d ∣ n) : Hom n d (fun i => i % d) :=
  ⟨fun i _ => Nat.mod_lt _ h0, fun i j _ _ => by rw [Nat.mod_mod_of_dvd _ hd, Nat.add_mod]⟩
theorem hom_spread {n o : Nat} (h0 : 0 < o) : Hom n (n * o) (fun i => i * o) :=
  ⟨fun i hi => Nat.mul_lt_mul_of_pos_right hi h0, fun i j hi hj => by
    rw [← Nat.add_mul, Nat.mul_mod_mul_right]⟩
theorem hom_stretch {n : Nat} (k : Nat) (h0 : 0 < n) : Hom n n (fun i => i * k % n) :=
  ⟨fun i _ => Nat.mod_lt _ h0, fun i j _ _ => by
    show (i + j) % n * k % n = (i * k % n + j * k % n) % n
    rw [Nat.mod_mul_mod, Nat.add_mul, Nat.add_mod]⟩
/-- folded, as it is summed: every d-th from c on -/
theorem fold_sum {d : Nat} (f : Nat → Int) {c : Nat} (hc : c < d) : ∀ q, S q (fun t => f (c + t * d)) = push (q * d) (fun i => i % d) f c
  | 0 => by simp [push, S_zero]
  | q + 1 => by
    rw [S_succ, fold_sum f hc q]
    unfold push
    have split : ∀ (F : Nat → Int) (a b : Nat), S (a + b) F = S a F + S b (fun i => F (a + i)) := fun F a b => by
      induction b with
      | zero => simp [S_zero]
      | succ b ih => rw [← Nat.add_assoc, S_succ, ih, S_succ]; omega
    rw [Nat.succ_mul, split]
    congr 1
    rw [S_congr (g := fun i => if i = c then f (c + q * d) else 0) fun i hi => ?_, S_pick (fun _ => _) hc]
    have e : (q * d + i) % d = i := by rw [Nat.mul_comm, Nat.mul_add_mod, Nat.mod_eq_of_lt hi]
    by_cases z : i = c
    · rw [if_pos (show (q * d + i) % d = c by omega), if_pos z, z, Nat.add_comm]
    · rw [if_neg (show ¬ (q * d + i) % d = c by omega), if_neg z]
theorem spread_at {n o : Nat} (f : Nat → Int) (h0 : 0 < o) {c : Nat} (hc : c < n * o) : push n (fun i => i * o) f c = if c % o = 0 then f (c / o) else 0 := by
  have hlt : c / o < n := Nat.div_lt_of_lt_mul (by rw [Nat.mul_comm]; exact hc)
  unfold push
  by_cases q : c % o = 0
  · rw [if_pos q, S_congr (g := fun i => if i = c / o then f i else 0) fun i _ => ?_, S_pick f hlt]
    have e : i * o = c ↔ i = c / o := by
      constructor
      · intro z; rw [← z, Nat.mul_div_cancel _ h0]
      · intro z; rw [z]; exact Nat.div_mul_cancel (Nat.dvd_of_mod_eq_zero q)
    by_cases z : i = c / o
    · rw [if_pos z, if_pos (e.mpr z)]
    · rw [if_neg z, if_neg fun w => z (e.mp w)]
  · rw [if_neg q, S_congr (g := fun _ => 0) fun i _ => ?_, S_nil]
    exact if_neg fun z => q (by rw [← z]; simp)
/-- the echo of a repeated voice -/
theorem S_rep {n : Nat} (F : Nat → Int) : ∀ o, S (n * o) (fun i => F (i % n)) = o * S n F
  | 0 => by simp [S_zero]
  | o + 1 => by
    have split : ∀ (F : Nat → Int) (a b : Nat), S (a + b) F = S a F + S b (fun i => F (a + i)) := fun F a b => by
      induction b with
      | zero => simp [S_zero]
      | succ b ih => rw [← Nat.add_assoc, S_succ, ih, S_succ]; omega
    have e : S n (fun i => F ((n * o + i) % n)) = S n F := S_congr fun i hi => by rw [Nat.mul_add_mod, Nat.mod_eq_of_lt hi]
    rw [Nat.mul_succ, split, S_rep F o, e]
    have : ((o + 1 : Nat) : Int) = (o : Int) + 1 := by omega
    rw [this, Int.add_mul, Int.one_mul]
theorem cro_rep {n o : Nat} (f : Nat → Int) (k : Nat) : cro (n * o) (fun i => f (i % n)) (fun i => f (i % n)) k = o * cro n f f (k % n) := by
  unfold cro
  rw [← S_rep (n := n) (fun j => f ((j + k % n) % n) * f j) o]
  refine S_congr fun j _ => ?_
  have e1 : (j + k) % (n * o) % n = (j % n + k % n) % n := by
    rw [Nat.mod_mod_of_dvd _ ⟨o, rfl⟩, Nat.add_mod]
  dsimp only
  rw [e1]
/-- turned -/
theorem cro_turn {n : Nat} (f g : Nat → Int) (t k : Nat) : cro n (fun i => f ((i + t) % n)) (fun i => g ((i + t) % n)) k = cro n f g k := by
  unfold cro
  rw [← S_turn n t (fun j => f ((j + k) % n) * g j)]
  refine S_congr fun j _ => ?_
  dsimp only
  congr 2
  rw [Nat.mod_add_mod, Nat.mod_add_mod]
  congr 1
  omega
theorem cro_turn1 {n : Nat} (f g : Nat → Int) (t k : Nat) : cro n (fun i => f ((i + t) % n)) g k = cro n f g ((k + t) % n) := by
  unfold cro
  refine S_congr fun j _ => ?_
  dsimp only
  congr 2
  rw [Nat.mod_add_mod, Nat.add_mod_mod]
  congr 1
  omega
theorem cro_at {n : Nat} (f g : Nat → Int) (k : Nat) : cro n f g (k % n) = cro n f g k := by
  unfold cro
  exact S_congr fun j _ => by rw [Nat.add_mod_mod]
theorem cro_congr {n : Nat} {f f' g g' : Nat → Int} (hf : ∀ i, i < n → f i = f' i) (hg : ∀ i, i < n → g i = g' i) (k : Nat) : cro n f g k = cro n f' g' k := by
  unfold cro
  exact S_congr fun j hj => by rw [hf _ (Nat.mod_lt _ (by omega)), hg j hj]
theorem cro_mm {n : Nat} (f g : Nat → Int) {k : Nat} (hk : k < n) : cro n (mir n f) (mir n g) k = cro n g f k := by
  rw [cro_con, con_congr (fun _ _ => rfl) (fun i hi => mir_mir g hi), con_comm, ← cro_con]
/-- two clocks joined -/
def joi (n m : Nat) (f g : Nat → Int) (b : Nat) : Int := f (b % n) * g (b % m)
theorem S_join {n m : Nat} (h : ∀ i, i < n → ∀ G : Nat → Int, S m (fun t => G ((i + t * n) % m)) = S m G) (F G : Nat → Int) : S (n * m) (fun b => F (b % n) * G (b % m)) = S n F * S m G := by
  have cut : ∀ q (P : Nat → Int), S (n * q) P = S n (fun i => S q (fun t => P (i + t * n))) := fun q P => by
    induction q with
    | zero => simp [S_zero, S_nil]
    | succ q ih =>
      have split : ∀ (F : Nat → Int) (a b : Nat), S (a + b) F = S a F + S b (fun i => F (a + i)) := fun F a b => by
        induction b with
        | zero => simp [S_zero]
        | succ b ih => rw [← Nat.add_assoc, S_succ, ih, S_succ]; omega
      rw [Nat.mul_succ, split, ih, ← S_add]
      refine S_congr fun i _ => ?_
      rw [S_succ, Nat.add_comm (n * q), Nat.mul_comm n q]
  rw [cut, ← S_mul']
  refine S_congr fun i hi => ?_
  rw [S_congr (g := fun t => F i * G ((i + t * n) % m)) fun t _ => ?_, S_mul, h i hi]
  rw [Nat.add_mul_mod_self_right, Nat.mod_eq_of_lt hi]
theorem cro_join {n m : Nat} (h : ∀ i, i < n → ∀ G : Nat → Int, S m (fun t => G ((i + t * n) % m)) = S m G) (f g : Nat → Int) (k : Nat) : cro (n * m) (joi n m f g) (joi n m f g) k = joi n m (cro n f f) (cro m g g) k := by
  unfold joi
  show _ = cro n f f (k % n) * cro m g g (k % m)
  rw [cro_at, cro_at]
  unfold cro
  rw [← S_join h]
  refine S_congr fun b hb => ?_
  have e1 : (b + k) % (n * m) % n = (b % n + k) % n := by rw [Nat.mod_mod_of_dvd _ ⟨m, rfl⟩, Nat.mod_add_mod]
  have e2 : (b + k) % (n * m) % m = (b % m + k) % m := by rw [Nat.mod_mod_of_dvd _ ⟨n, Nat.mul_comm n m⟩, Nat.mod_add_mod]
  dsimp only
  rw [e1, e2]
  simp only [Int.mul_assoc, Int.mul_left_comm, Int.mul_comm]
end Cyc

namespace Cyc
/-! ### a voice's turns, its mirror's turns -/
def E (n : Nat) (a b : Nat → Int) : Prop := ∀ i, i < n → a i = b i
instance (n : Nat) (a b : Nat → Int) : Decidable (E n a b) := Nat.decidableBallLT n fun i _ => a i = b i
theorem E.refl {n : Nat} (a : Nat → Int) : E n a a := fun _ _ => rfl
theorem E.symm {n : Nat} {a b : Nat → Int} (h : E n a b) : E n b a := fun i hi => (h i hi).symm
theorem E.trans {n : Nat} {a b c : Nat → Int} (h : E n a b) (g : E n b c) : E n a c := fun i hi => (h i hi).trans (g i hi)
def tn (n k : Nat) (f : Nat → Int) (i : Nat) : Int := f ((i + (n - k)) % n)
theorem sb_eq {n i k : Nat} (hi : i < n) (hk : k < n) : (i + (n - k)) % n = if k ≤ i then i - k else i + n - k := by
  by_cases h : k ≤ i
  · rw [if_pos h, show i + (n - k) = i - k + n by omega, Nat.add_mod_right, Nat.mod_eq_of_lt (by omega)]
  · rw [if_neg h, show i + (n - k) = i + n - k by omega, Nat.mod_eq_of_lt (by omega)]
theorem ad_eq {n i k : Nat} (hi : i < n) (hk : k < n) : (i + k) % n = if i + k < n then i + k else i + k - n := by
  by_cases h : i + k < n
  · rw [if_pos h, Nat.mod_eq_of_lt h]
  · rw [if_neg h, Nat.mod_eq_sub_mod (by omega), Nat.mod_eq_of_lt (by omega)]
theorem ng_eq {n k : Nat} (hk : k < n) : (n - k) % n = if k = 0 then 0 else n - k := by
  by_cases h : k = 0
  · rw [if_pos h, h, Nat.sub_zero, Nat.mod_self]
  · rw [if_neg h, Nat.mod_eq_of_lt (by omega)]
section
variable {n k t : Nat} {a b c : Nat → Int}
theorem tn_cong (h : E n a b) : E n (tn n k a) (tn n k b) := fun i hi => h _ (Nat.mod_lt _ (by omega))
theorem mir_cong (h : E n a b) : E n (mir n a) (mir n b) := fun i hi => h _ (Nat.mod_lt _ (by omega))
theorem tn_tn (hk : k < n) (ht : t < n) : E n (tn n t (tn n k a)) (tn n ((k + t) % n) a) := fun i hi => by
  unfold tn
  have h0 : 0 < n := by omega
  rw [sb_eq hi ht, sb_eq (k := k) (by split <;> omega) hk, sb_eq hi (Nat.mod_lt _ h0), ad_eq hk ht]
  congr 1
  repeat' split
  all_goals omega
theorem tn_zero (h0 : 0 < n) : E n (tn n 0 a) a := fun i hi => by
  unfold tn
  rw [sb_eq hi h0]
  simp
theorem tn_neg (hk : k < n) : E n (tn n ((n - k) % n) (tn n k a)) a := by
  have h0 : 0 < n := by omega
  refine (tn_tn hk (Nat.mod_lt _ h0)).trans ?_
  have : (k + (n - k) % n) % n = 0 := by
    rw [ng_eq hk]
    split
    · rename_i h; subst h; simp
    · rw [show k + (n - k) = n by omega, Nat.mod_self]
  rw [this]
  exact tn_zero h0
theorem tn_inj (ht : t < n) (h : E n (tn n t a) (tn n t b)) : E n a b := ((tn_neg ht).symm.trans (tn_cong h)).trans (tn_neg ht)
theorem mir_tn (hk : k < n) : E n (mir n (tn n k a)) (tn n ((n - k) % n) (mir n a)) := fun i hi => by
  unfold mir tn
  have h0 : 0 < n := by omega
  dsimp only
  rw [ng_eq hi, ng_eq hk, sb_eq (k := k) (by split <;> omega) hk, sb_eq (k := if k = 0 then 0 else n - k) hi (by split <;> omega)]
  rw [ng_eq (by repeat' split
                all_goals omega)]
  congr 1
  repeat' split
  all_goals omega
theorem mir_mir' : E n (mir n (mir n a)) a := fun i hi => mir_mir a hi
theorem mir_iff : E n (mir n a) b ↔ E n a (mir n b) := ⟨fun h => mir_mir'.symm.trans (mir_cong h), fun h => (mir_cong h).trans mir_mir'⟩
/-! counts -/
def Bq (n : Nat) (a b : Nat → Int) : Int := if E n a b then 1 else 0
theorem Bq_iff {a' b' : Nat → Int} (h : E n a b ↔ E n a' b') : Bq n a b = Bq n a' b' := by
  unfold Bq
  by_cases q : E n a b
  · rw [if_pos q, if_pos (h.mp q)]
  · rw [if_neg q, if_neg fun w => q (h.mpr w)]
theorem q_shift (ht : t < n) : S n (fun k => Bq n (tn n k a) (tn n t b)) = S n (fun k => Bq n (tn n k a) b) := by
  rw [← S_turn n t fun k => Bq n (tn n k a) (tn n t b)]
  refine S_congr fun k hk => Bq_iff ⟨fun h => tn_inj ht ((tn_tn hk ht).trans h), fun h => (tn_tn hk ht).symm.trans (tn_cong h)⟩
theorem q_flip : S n (fun k => Bq n (tn n k a) (mir n b)) = S n (fun k => Bq n (tn n k (mir n a)) b) := by
  rw [← S_mir n 0 fun k => Bq n (tn n k (mir n a)) b]
  refine S_congr fun k hk => Bq_iff ?_
  rw [Nat.zero_add, ← mir_iff]
  exact ⟨fun h => (mir_tn hk).symm.trans h, fun h => (mir_tn hk).trans h⟩
theorem q_right (h : E n b c) : S n (fun k => Bq n (tn n k a) b) = S n (fun k => Bq n (tn n k a) c) := S_congr fun k _ => Bq_iff ⟨fun q => q.trans h, fun q => q.trans h.symm⟩
theorem q_left (h : E n a b) : S n (fun k => Bq n (tn n k a) c) = S n (fun k => Bq n (tn n k b) c) := S_congr fun k _ => Bq_iff ⟨fun q => (tn_cong h.symm).trans q, fun q => (tn_cong h).trans q⟩
def Nq (n : Nat) (f g : Nat → Int) : Int := S n (fun k => Bq n (tn n k f) g) + S n (fun k => Bq n (tn n k (mir n f)) g)
def Tk (n : Nat) (f g : Nat → Int) : Prop := ∃ k, k < n ∧ E n (tn n k f) g
def kin (n : Nat) (f g : Nat → Int) : Prop := Tk n f g ∨ Tk n (mir n f) g
variable {f g h : Nat → Int}
theorem Nq_const (q : kin n f g) : Nq n f g = Nq n f f := by
  unfold Nq
  rcases q with ⟨t, ht, e⟩ | ⟨t, ht, e⟩
  · rw [q_right e.symm, q_right (a := mir n f) e.symm, q_shift ht, q_shift ht]
  · rw [q_right e.symm, q_right (a := mir n f) e.symm, q_shift ht, q_shift ht, q_flip, q_flip, q_left mir_mir', Int.add_comm]
theorem Tk.symm (q : Tk n f g) : Tk n g f := by
  obtain ⟨k, hk, e⟩ := q
  exact ⟨(n - k) % n, Nat.mod_lt _ (by omega), (tn_cong e.symm).trans (tn_neg hk)⟩
theorem Tk.trans (q : Tk n f g) (r : Tk n g h) : Tk n f h := by
  obtain ⟨k, hk, e⟩ := q
  obtain ⟨t, ht, d⟩ := r
  exact ⟨(k + t) % n, Nat.mod_lt _ (by omega), (tn_tn hk ht).symm.trans ((tn_cong e).trans d)⟩
theorem Tk.mir (q : Tk n f g) : Tk n (mir n f) (mir n g) := by
  obtain ⟨k, hk, e⟩ := q
  exact ⟨(n - k) % n, Nat.mod_lt _ (by omega), (mir_tn hk).symm.trans (mir_cong e)⟩
theorem Tk.of (h0 : 0 < n) (q : E n f g) : Tk n f g := ⟨0, h0, (tn_zero h0).trans q⟩
theorem Tk.pos (q : Tk n f g) : 0 < n := by obtain ⟨k, hk, _⟩ := q; omega
/-- mirrored, and back -/
theorem Tk.flip (q : Tk n (Cyc.mir n f) g) : Tk n (Cyc.mir n g) f := by
  have := q.mir
  exact (Tk.trans (Tk.of this.pos mir_mir'.symm) this).symm
theorem kin.symm (q : kin n f g) : kin n g f := by
  rcases q with q | q
  · exact .inl q.symm
  · exact .inr q.flip
theorem kin.trans (q : kin n f g) (r : kin n g h) : kin n f h := by
  rcases q with q | q
  · rcases r with r | r
    · exact .inl (q.trans r)
    · exact .inr (q.mir.trans r)
  · rcases r with r | r
    · exact .inr (q.trans r)
    · exact .inl (q.flip.symm.trans r |> fun w => w)
theorem kin.refl (h0 : 0 < n) : kin n f f := .inl (Tk.of h0 (E.refl f))
end
/-! ### as lists -/
def vv (n : Nat) (f : Nat → Int) : List Int := (List.range n).map f
theorem vv_len (n : Nat) (f : Nat → Int) : (vv n f).length = n := by simp [vv]
theorem vv_eq {n : Nat} {f g : Nat → Int} : vv n f = vv n g ↔ E n f g := by
  unfold vv
  constructor
  · intro h i hi
    have := congrArg (fun l => l[i]?) h
    simpa [hi] using this
  · intro h
    exact List.map_congr_left fun i hi => h i (List.mem_range.mp hi)
def TL (n : Nat) (f : Nat → Int) : List (List Int) := (List.range n).map fun k => vv n (tn n k f)
def KL (n : Nat) (f : Nat → Int) : List (List Int) := TL n f ++ TL n (mir n f)
theorem TL_len (n : Nat) (f : Nat → Int) : (TL n f).length = n := by simp [TL]
theorem KL_len (n : Nat) (f : Nat → Int) : (KL n f).length = n + n := by simp [KL, TL_len]
theorem mem_TL {n : Nat} {f g : Nat → Int} : vv n g ∈ TL n f ↔ Tk n f g := by
  unfold TL Tk
  rw [List.mem_map]
  constructor
  · rintro ⟨k, hk, e⟩
    exact ⟨k, List.mem_range.mp hk, vv_eq.mp e⟩
  · rintro ⟨k, hk, e⟩
    exact ⟨k, List.mem_range.mpr hk, vv_eq.mpr e⟩
theorem mem_KL {n : Nat} {f g : Nat → Int} : vv n g ∈ KL n f ↔ kin n f g := by
  unfold KL kin
  rw [List.mem_append, mem_TL, mem_TL]
theorem KL_vv {n : Nat} {f : Nat → Int} {z : List Int} (h : z ∈ KL n f) : ∃ k g, k < n ∧ (g = f ∨ g = mir n f) ∧ z = vv n (tn n k g) := by
  unfold KL TL at h
  rw [List.mem_append, List.mem_map, List.mem_map] at h
  rcases h with ⟨k, hk, e⟩ | ⟨k, hk, e⟩
  · exact ⟨k, f, List.mem_range.mp hk, .inl rfl, e.symm⟩
  · exact ⟨k, _, List.mem_range.mp hk, .inr rfl, e.symm⟩
theorem KL_same {n : Nat} {f g : Nat → Int} (q : kin n f g) (z : List Int) : z ∈ KL n g ↔ z ∈ KL n f := by
  constructor
  · intro h
    obtain ⟨k, a, _, _, rfl⟩ := KL_vv h
    exact mem_KL.mpr (q.trans (mem_KL.mp h))
  · intro h
    obtain ⟨k, a, _, _, rfl⟩ := KL_vv h
    exact mem_KL.mpr (q.symm.trans (mem_KL.mp h))
theorem count_sum {α : Type} [BEq α] [LawfulBEq α] [DecidableEq α] (F : Nat → α) (z : α) (n : Nat) : ((((List.range n).map F).count z : Nat) : Int) = S n fun k => if F k = z then 1 else 0 := by
  induction n with
  | zero => rfl
  | succ n ih =>
    rw [List.range_succ, List.map_append, List.count_append, S_succ, Int.natCast_add, ih]
    congr 1
    by_cases q : F n = z
    · simp [q]
    · simp [q]
theorem count_KL {n : Nat} {f g : Nat → Int} : (((KL n f).count (vv n g) : Nat) : Int) = Nq n f g := by
  unfold KL TL Nq Bq
  rw [List.count_append, Int.natCast_add, count_sum, count_sum]
  simp only [vv_eq]
theorem len_mul {α : Type} [BEq α] [LawfulBEq α] {c : Nat} : ∀ (D L : List α), D.Nodup → (∀ z ∈ L, z ∈ D) → (∀ z ∈ D, L.count z = c) → L.length = D.length * c
  | [], L, _, h, _ => by
    cases L with
    | nil => simp
    | cons z L => exact absurd (h z List.mem_cons_self) (by simp)
  | d :: D, L, nd, h1, h2 => by
    rw [List.nodup_cons] at nd
    have e1 : L.length = L.count d + (L.filter fun z => !(z == d)).length := by
      clear h1 h2
      induction L with
      | nil => rfl
      | cons z L ih =>
        by_cases q : z = d
        · subst q
          simp only [List.length_cons, List.count_cons_self, beq_self_eq_true, Bool.not_true, Bool.false_eq_true, not_false_eq_true, List.filter_cons_of_neg]
          omega
        · have q' : (z == d) = false := by simpa using q
          rw [List.count_cons, q', List.filter_cons_of_pos (by simp [q'])]
          simp only [List.length_cons, Bool.false_eq_true, if_false]
          omega
    have e2 := len_mul (c := c) D (L.filter fun z => !(z == d)) nd.2 (fun z hz => by
      rw [List.mem_filter] at hz
      rcases List.mem_cons.mp (h1 z hz.1) with q | q
      · subst q; simp at hz
      · exact q) (fun z hz => by
      rw [List.count_filter]
      · exact h2 z (List.mem_cons_of_mem _ hz)
      · have : z ≠ d := fun q => nd.1 (q ▸ hz)
        simpa using this)
    rw [e1, e2, h2 d List.mem_cons_self, List.length_cons, Nat.succ_mul, Nat.add_comm]
/-- the kin are equally often met -/
theorem KL_dvd {n : Nat} {f : Nat → Int} {D : List (List Int)} (nd : D.Nodup) (h : ∀ z, z ∈ D ↔ z ∈ KL n f) : D.length ∣ n + n := by
  rw [← KL_len n f]
  refine ⟨(KL n f).count (vv n f), len_mul D (KL n f) nd (fun z hz => (h z).mpr hz) fun z hz => ?_⟩
  have hz := (h z).mp hz
  obtain ⟨k, a, _, _, rfl⟩ := KL_vv hz
  have q := mem_KL.mp hz
  have := Nq_const q
  rw [← count_KL, ← count_KL] at this
  omega
/-! ### echoes -/
theorem echo_tn {n k : Nat} {f : Nat → Int} (j : Nat) : cro n (tn n k f) (tn n k f) j = cro n f f j := cro_turn f f (n - k) j
theorem echo_kin {n : Nat} {f g : Nat → Int} (q : kin n f g) : E n (cro n f f) (cro n g g) := fun j hj => by
  rcases q with ⟨k, hk, e⟩ | ⟨k, hk, e⟩
  · rw [← cro_congr e e j, echo_tn]
  · rw [← cro_congr e e j, echo_tn, cro_mm _ _ hj]
end Cyc

namespace Ev
open PySem L2 Cyc

/-! ### tuples of ints, by their function -/
def vl (n : Nat) (f : Nat → Int) : List PV := (List.range n).map fun i => PV.int (f i)
abbrev vt (n : Nat) (f : Nat → Int) : PV := .tup (vl n f)
theorem vl_len (n : Nat) (f : Nat → Int) : (vl n f).length = n := by simp [vl]
theorem vl_at {n : Nat} (f : Nat → Int) {i : Nat} (h : i < n) : atP (vl n f) i = some (.int (f i)) := by
  rw [atP_get]
  simp [vl, h]
theorem vl_congr {n : Nat} {f g : Nat → Int} (h : ∀ i, i < n → f i = g i) : vl n f = vl n g := by
  unfold vl
  exact List.map_congr_left fun i hi => by rw [h i (List.mem_range.mp hi)]
theorem vl_of : ∀ (xs : List PV), (∀ x ∈ xs, ∃ i, x = .int i) → ∃ f, xs = vl xs.length f := by
  intro xs h
  refine ⟨fun i => match xs[i]? with
    | some (.int j) => j
    | _ => 0, ?_⟩
  refine List.ext_getElem? fun i => ?_
  by_cases hi : i < xs.length
  · obtain ⟨j, e⟩ := h xs[i] (List.getElem_mem hi)
    have e1 : xs[i]? = some (.int j) := by rw [List.getElem?_eq_getElem hi, e]
    rw [e1]
    simp [vl, hi, e1, e]
  · rw [List.getElem?_eq_none (by omega), List.getElem?_eq_none (by rw [vl_len]; omega)]
theorem ixN_in {n : Nat} {m : Int} (h0 : 0 ≤ m) (h1 : m < n) : ixN n m = some m.toNat := by
  unfold ixN
  rw [if_pos h0, if_pos h1]
theorem sub_vt {n : Nat} {f : Nat → Int} {m : Int} {st : Store} (h0 : 0 ≤ m) (h1 : m < n) : evSub (vt n f) (.int m) st = .ok (.int (f m.toNat)) st := by
  simp only [evSub, items, vl_len, ixN_in h0 h1]
  rw [vl_at f (by omega)]
  rfl
theorem intsOf_map : ∀ (l : List Nat) (f : Nat → Int), intsOf (l.map fun i => PV.int (f i)) = some (l.map f)
  | [], _ => rfl
  | i :: l, f => by simp only [List.map_cons, intsOf, intsOf_map l f]
theorem intsOf_vl (n : Nat) (f : Nat → Int) : intsOf (vl n f) = some ((List.range n).map f) := intsOf_map _ _
theorem sum_vl {n : Nat} {f : Nat → Int} {s : Src} {st : Store} : evCbl .sum (s, vl n f) st = .ok (.int (Cyc.S n f)) st := by
  simp only [evCbl, intsOf_vl]
  rfl
theorem rngL_eq : ∀ (n : Nat) (lo : Int), rngL lo n = (List.range n).map fun (i : Nat) => PV.int (lo + i)
  | 0, _ => rfl
  | n + 1, lo => by
    simp only [rngL]
    rw [rngL_eq n (lo + 1), List.range_succ_eq_map, List.map_cons, List.map_map]
    have e1 : PV.int lo = PV.int (lo + ((0 : Nat) : Int)) := by simp
    rw [e1]
    refine congrArg (PV.int (lo + ((0 : Nat) : Int)) :: ·) (List.map_congr_left fun i _ => ?_)
    show PV.int (lo + 1 + i) = PV.int (lo + ((i + 1 : Nat) : Int))
    congr 1
    omega
/-- data -/
theorem mapO_map {α : Type} {f : PV → Option PyData} {h : α → PV} {d : α → PyData} : ∀ (l : List α), (∀ a ∈ l, f (h a) = some (d a)) → mapO f (l.map h) = some (l.map d)
  | [], _ => rfl
  | a :: l, e => by
    simp only [List.map_cons, mapO]
    rw [e a List.mem_cons_self, mapO_map l fun b hb => e b (List.mem_cons_of_mem _ hb)]
theorem toD_vt {st : Store} {k n : Nat} {f : Nat → Int} : toD st (k + 1) (vt n f) = some (.tuple ((List.range n).map fun i => .int (f i))) := by
  simp only [toD, vl]
  rw [mapO_map (d := fun i => .int (f i)) _ fun a _ => by cases k <;> rfl]
theorem eqvAll_map {f g : Nat → Int} : ∀ (l : List Nat), PyData.eqvAll (l.map fun i => .int (f i)) (l.map fun i => .int (g i)) = l.all fun i => f i == g i
  | [] => rfl
  | i :: l => by
    simp only [List.map_cons, PyData.eqvAll, List.all_cons]
    rw [eqvAll_map l]
    rfl
theorem eq_vt {st : Store} {n : Nat} {f g : Nat → Int} : eqD (vt n f) (vt n g) st = some ((List.range n).all fun i => f i == g i) := by
  simp only [eqD, toD_vt, PyData.eqv, eqvAll_map]
theorem all_true {n : Nat} {f g : Nat → Int} (h : ∀ i, i < n → f i = g i) : ((List.range n).all fun i => f i == g i) = true := by
  rw [List.all_eq_true]
  intro i hi
  simpa using h i (List.mem_range.mp hi)
mutual
theorem sameD_refl : ∀ d : PyData, d.hasDict = false → sameD d d = true
  | .none, _ => rfl
  | .bool b, _ => by simp [sameD]
  | .int b, _ => by simp [sameD]
  | .str b, _ => by simp [sameD]
  | .list xs, h => by simp only [sameD]; exact sameDs_refl xs (by simpa [PyData.hasDict] using h)
  | .tuple xs, h => by simp only [sameD]; exact sameDs_refl xs (by simpa [PyData.hasDict] using h)
  | .dict kvs, h => by simp [PyData.hasDict] at h
theorem sameDs_refl : ∀ xs : List PyData, PyData.hasDictAll xs = false → sameDs xs xs = true
  | [], _ => rfl
  | x :: xs, h => by
    simp only [PyData.hasDictAll, Bool.or_eq_false_iff] at h
    simp only [sameDs, sameD_refl x h.1, sameDs_refl xs h.2, Bool.and_self]
end
/-- a small int's text -/
theorem int_show {i : Int} (h : i.natAbs < 2 ^ 100) : PyData.showable (.int i) = true := by
  simp only [PyData.showable, decide_eq_true_eq]
  by_cases h0 : i.natAbs = 0
  · rw [h0]; decide
  · exact Nat.lt_trans ((Nat.log2_lt h0).mpr h) (by decide)
theorem showAll_map {l : List Nat} {f : Nat → Int} (h : ∀ i ∈ l, (f i).natAbs < 2 ^ 100) : PyData.showableAll (l.map fun i => .int (f i)) = true := by
  induction l with
  | nil => rfl
  | cons i l ih =>
    simp only [List.map_cons, PyData.showableAll, int_show (h i List.mem_cons_self), ih fun j hj => h j (List.mem_cons_of_mem _ hj), Bool.and_self]
theorem szAll_map {l : List Nat} {f : Nat → Int} : szAll (l.map fun i => .int (f i)) = 1923 * l.length := by
  induction l with
  | nil => rfl
  | cons i l ih => simp only [List.map_cons, szAll, szD, ih, List.length_cons]; omega

/-! ### one step behind another -/
theorem bind_k {α β : Type} (a : α) (s : Store) (f : α → Store → Res β) : (Res.ok a s).bind f = f a s := Eq.trans rfl rfl
theorem thn_k {α : Type} (a : α) (s : Store) (env : Env) (f : α → Store → SR) : (Res.ok a s).thn env f = f a s := Eq.trans rfl rfl
theorem nx_bind (e : Env) (s : Store) (f : Env → Store → SR) : (SR.nx e s).bind f = f e s := Eq.trans rfl rfl
theorem rt_bind (v : PV) (s : Store) (f : Env → Store → SR) : (SR.rt v s).bind f = .rt v s := Eq.trans rfl rfl
theorem noX_k {α : Type} (a : α) (s : Store) : noX (Res.ok a s) = .ok a s := Eq.trans rfl rfl
theorem endF_rt (v : PV) (s : Store) : endF (.rt v s) = .ok v s := Eq.trans rfl rfl
theorem endF_nx (e : Env) (s : Store) : endF (.nx e s) = .ok .non s := Eq.trans rfl rfl
theorem optN_k (e : Env) (s : Store) : optN (some e) s = .nx e s := Eq.trans rfl rfl
theorem items_tup (xs : List PV) (st : Store) : items (.tup xs) st = some (.tup, xs) := Eq.trans rfl rfl
theorem okO_k (v : PV) (st : Store) : okO (some v) st = .ok v st := Eq.trans rfl rfl
theorem if_ok {α : Type} {c : Prop} [Decidable c] (h : c) (a b : α) : (if c then a else b) = a := if_pos h
theorem small_le {m : Nat} (h : m ≤ 1000) : m ≤ sizeLine := Nat.le_trans h (by decide)
theorem if_size {α : Type} {m : Nat} (h : m ≤ 1000) (a b : α) : (if m ≤ sizeLine then a else b) = a := if_pos (small_le h)
theorem boolR_bl (b : Bool) (s : Store) : boolR (.ok (.bl b) s) = .ok b s := Eq.trans rfl rfl

section
variable {cf : Nat → List PV → Store → Res PV} {env env' : Env} {st st' st2 : Store}
theorem ss_nx {s : S} {r : Ss} (h : evS cf s env st = .nx env' st') : evSs cf (.cons s r) env st = evSs cf r env' st' := by
  show (evS cf s env st).bind _ = _
  rw [h]
  rfl
theorem ss_rt {s : S} {r : Ss} {v : PV} (h : evS cf s env st = .rt v st') : evSs cf (.cons s r) env st = .rt v st' := by
  show (evS cf s env st).bind _ = _
  rw [h]
  rfl
theorem s_for {tg : List Nat} {one : Bool} {it : It} {body : Ss} {xs : List PV} (h : evI cf it env st = .ok (.st xs) st') : evS cf (.for tg one it body) env st = forGo tg one (evSs cf body) xs env st' := by
  show (evI cf it env st).thn env _ = _
  rw [h]
  rfl
theorem s_iteT {c : E} {a b : Ss} (h : evT cf c env st = .ok true st') : evS cf (.ite c a b) env st = evSs cf a env st' := by
  show (evT cf c env st).thn env _ = _
  rw [h]
  rfl
theorem s_iteF {c : E} {a b : Ss} (h : evT cf c env st = .ok false st') : evS cf (.ite c a b) env st = evSs cf b env st' := by
  show (evT cf c env st).thn env _ = _
  rw [h]
  rfl
theorem s_asg {i : Nat} {e : E} {v : PV} (h : evE cf e env st = .ok v st') : evS cf (.asg i e) env st = .nx (setS v env i) st' := by
  show (evE cf e env st).thn env _ = _
  rw [h]
  rfl
theorem s_ret {e : E} {v : PV} (h : evE cf e env st = .ok v st') : evS cf (.ret e) env st = .rt v st' := by
  show (evE cf e env st).thn env _ = _
  rw [h]
  rfl
end

/-! ### comprehensions -/
theorem compGo_map {α : Type} {turn : PV → List PV → Store → Res (List PV)} {st : Store} {h : α → PV} (g : α → PV) : ∀ (l : List α) (acc : List PV), (∀ a ∈ l, ∀ acc, turn (h a) acc st = .ok (g a :: acc) st) → compGo turn (l.map h) acc st = .ok ((l.map g).reverse ++ acc) st
  | [], acc, _ => rfl
  | a :: l, acc, e => by
    simp only [List.map_cons, compGo]
    rw [e a List.mem_cons_self]
    simp only [Res.bind]
    rw [compGo_map g l _ fun b hb => e b (List.mem_cons_of_mem _ hb)]
    simp
theorem compGo_filt {α : Type} {turn : PV → List PV → Store → Res (List PV)} {st : Store} {h : α → PV} (p : α → Bool) (g : α → PV) : ∀ (l : List α) (acc : List PV), (∀ a ∈ l, ∀ acc, turn (h a) acc st = .ok (if p a then g a :: acc else acc) st) → compGo turn (l.map h) acc st = .ok (((l.filter p).map g).reverse ++ acc) st
  | [], acc, _ => rfl
  | a :: l, acc, e => by
    simp only [List.map_cons, compGo]
    rw [e a List.mem_cons_self]
    simp only [Res.bind]
    rw [compGo_filt p g l _ fun b hb => e b (List.mem_cons_of_mem _ hb)]
    cases hp : p a <;> simp [hp]
section
variable {cf : Nat → List PV → Store → Res PV} {own : List Nat} {t : Nat} {elt c : E} {env : Env} {st : Store} {α : Type} {l : List α} {h g : α → PV} {it : It}
/-- [elt for target in what gives l if c] -/
theorem evL_mapB {one : Bool} {tg : List Nat} {B : α → Env} (hi : evI cf it env st = .ok (.st (l.map h)) st) (hl : l.length ≤ 16777215) (hB : ∀ a ∈ l, bindT one tg (h a) (wipeS env own) = some (B a)) (he : ∀ a ∈ l, evE cf elt (B a) st = .ok (g a) st) : evL cf (.comp own tg one it .nil elt) env st = .ok (.tmp, l.map g) st := by
  simp only [evL, hi, Res.bind, compAll, List.length_map, if_pos hl]
  rw [compGo_map g l [] fun a ha acc => ?_]
  · simp [compEnd]
  · simp only [compTurn1, hB a ha, evTs, noX, Res.bind]
    have := he a ha
    simp only [evE] at this
    rw [this]
theorem evL_filtB {one : Bool} {tg : List Nat} {B : α → Env} {p : α → Bool} (hi : evI cf it env st = .ok (.st (l.map h)) st) (hl : l.length ≤ 16777215) (hB : ∀ a ∈ l, bindT one tg (h a) (wipeS env own) = some (B a)) (hc : ∀ a ∈ l, evT cf c (B a) st = .ok (p a) st) (he : ∀ a ∈ l, p a = true → evE cf elt (B a) st = .ok (g a) st) :
    evL cf (.comp own tg one it (.cons c .nil) elt) env st = .ok (.tmp, (l.filter p).map g) st := by
  simp only [evL, hi, Res.bind, compAll, List.length_map, if_pos hl]
  rw [compGo_filt p g l [] fun a ha acc => ?_]
  · simp [compEnd]
  · have h1 := hc a ha
    simp only [evT] at h1
    simp only [compTurn1, hB a ha, evTs, h1, Res.bind]
    cases hp : p a with
    | false => simp [noX]
    | true =>
      have := he a ha hp
      simp only [evE] at this
      simp only [noX]
      rw [this]
      rfl
theorem evL_map (hi : evI cf it env st = .ok (.st (l.map h)) st) (hl : l.length ≤ 16777215) (he : ∀ a ∈ l, evE cf elt (setS (h a) (wipeS env own) t) st = .ok (g a) st) : evL cf (.comp own [t] true it .nil elt) env st = .ok (.tmp, l.map g) st :=
  evL_mapB hi hl (fun _ _ => rfl) he
theorem evL_filt {p : α → Bool} (hi : evI cf it env st = .ok (.st (l.map h)) st) (hl : l.length ≤ 16777215) (hc : ∀ a ∈ l, evT cf c (setS (h a) (wipeS env own) t) st = .ok (p a) st) (he : ∀ a ∈ l, p a = true → evE cf elt (setS (h a) (wipeS env own) t) st = .ok (g a) st) :
    evL cf (.comp own [t] true it (.cons c .nil) elt) env st = .ok (.tmp, (l.filter p).map g) st := evL_filtB hi hl (fun _ _ => rfl) hc he
theorem enmL_map {α : Type} {h : α → PV} : ∀ (l : List α) (k : Nat), enmL k (l.map h) = (l.zipIdx k).map fun q => .tup [.int q.2, h q.1]
  | [], _ => rfl
  | a :: l, k => by simp only [List.map_cons, enmL, List.zipIdx_cons, enmL_map l (k + 1)]
theorem enmL_vl (n : Nat) (f : Nat → Int) : enmL 0 (vl n f) = (List.range n).map fun (i : Nat) => PV.tup [.int i, .int (f i)] := by
  unfold vl
  rw [enmL_map]
  refine List.ext_getElem? fun i => ?_
  by_cases hi : i < n
  · simp [hi]
  · rw [List.getElem?_eq_none (by simp; omega), List.getElem?_eq_none (by simp; omega)]
theorem evL_val {e : E} : evL cf (.val e) env st = (evE cf e env st).bind fun x st1 => match items x st1 with
    | some q => .ok q st1
    | none => .stuck := Eq.trans rfl rfl
theorem evL_disp {es : Es} : evL cf (.disp es) env st = (evEs cf es env st).bind fun vs st1 => if vs.length ≤ sizeLine then .ok (.tmp, vs) st1 else .stuck := Eq.trans rfl rfl
/-- what a range gives -/
theorem evI_rng {a : E} {m : Nat} (ha : evE cf a env st = .ok (.int m) st) (hm : m ≤ 16777215) : evI cf (.rng1 a) env st = .ok (.st ((List.range m).map fun (i : Nat) => PV.int i)) st := by
  simp only [evE] at ha
  simp only [evI, ha, Res.bind]
  have : bigI m = true := by simp only [bigI, Bool.and_eq_true, decide_eq_true_eq]; omega
  rw [if_pos this, rngL_eq]
  simp
theorem evI_enm {e : E} {xs : List PV} (ha : evE cf e env st = .ok (.tup xs) st) : evI cf (.enm (.val e)) env st = .ok (.st (enmL 0 xs)) st := by
  simp only [evE] at ha
  simp only [evI, evL, ha, Res.bind, items, enmI]
theorem evI_tup {e : E} {xs : List PV} (ha : evE cf e env st = .ok (.tup xs) st) : evI cf (.seq (.val e)) env st = .ok (.st xs) st := by
  simp only [evE] at ha
  simp only [evI, evL, ha, Res.bind, items, srcI]
end
end Ev

namespace K32
open PySem PySem.Spec PyProof.Rows L2 Ev
def top (i : Nat) : Stmt := PySem.Challenge.pw_silentbeats_k32_whole_kin_by_all_turns.main.body.getD i (.Pass ⟨0, 0, 0, 0⟩)
def f0 : Fn := ⟨3, 1, (.cons (.ret (.cbl .tuple (.comp [1, 2] [1, 2] false (.enm (.val (.slot 0))) (.cons (.cmp .ne (.slot 2) (.lit (.int 0))) .nil) (.slot 1)))) .nil)⟩
def f1 : Fn := ⟨6, 2, (.cons (.asgT [2, 3] (.tupd (.cons (.cbl .len (.val (.slot 0))) (.cons (.call 0 (.cons (.slot 0) .nil) []) .nil)))) (.cons (.ret (.cbl .tuple (.comp [5] [5] true (.rng1 (.slot 2)) .nil (.cbl .sum (.comp [4] [4] true (.seq (.val (.slot 3))) .nil (.bin .mul (.sub (.slot 0) (.slot 4)) (.sub (.slot 1) (.bin .mod (.bin .sub (.slot 5) (.slot 4)) (.slot 2))))))))) .nil))⟩
def f2 : Fn := ⟨3, 2, (.cons (.asg 2 (.bin .mod (.neg (.slot 1)) (.cbl .len (.val (.slot 0))))) (.cons (.ret (.tupd (.star (.val (.slc (.slot 0) (.so (.slot 2)) .no)) (.star (.val (.slc (.slot 0) .no (.so (.slot 2)))) .nil)))) .nil))⟩
def f3 : Fn := ⟨1, 1, (.cons (.ret (.tupd (.cons (.sub (.slot 0) (.lit (.int 0))) (.star (.val (.stp (.slot 0) .no (.so (.lit (.int 0))) (.neg (.lit (.int 1))))) .nil)))) .nil)⟩
def f4 : Fn := ⟨2, 2, (.cons (.ret (.call 1 (.cons (.slot 0) (.cons (.call 3 (.cons (.slot 1) .nil) []) .nil)) [])) .nil)⟩
def f5 : Fn := ⟨1, 1, (.cons (.ret (.call 4 (.cons (.slot 0) (.cons (.slot 0) .nil)) [])) .nil)⟩
def f6 : Fn := ⟨2, 1, (.cons (.ret (.mk (.comp [1] [1] true (.rng1 (.cbl .len (.val (.slot 0)))) .nil (.call 2 (.cons (.slot 0) (.cons (.slot 1) .nil)) [])))) .nil)⟩
def f7 : Fn := ⟨1, 1, (.cons (.ret (.cbl .tuple (.sset (.disp (.star (.val (.call 6 (.cons (.slot 0) .nil) [])) (.star (.val (.call 6 (.cons (.call 3 (.cons (.slot 0) .nil) []) .nil) [])) .nil)))))) .nil)⟩
def f8 : Fn := ⟨4, 2, (.cons (.for [2, 3] false (.seq (.val (.tupd (.cons (.tupd (.cons (.gco "TURNED" (.str (PySem.Str.ofString "turned"))) (.cons (.call 6 (.cons (.slot 0) .nil) []) .nil))) (.cons (.tupd (.cons (.gco "MIRRORED" (.str (PySem.Str.ofString "mirrored"))) (.cons (.call 6 (.cons (.call 3 (.cons (.slot 0) .nil) []) .nil) []) .nil))) .nil))))) (.cons (.ite (.cmp .isin (.slot 1) (.slot 3)) (.cons (.ret (.tupd (.cons (.slot 2) (.cons (.idx (.slot 3) (.slot 1)) .nil)))) .nil) .nil) .nil)) (.cons (.ret (.lit .non)) .nil))⟩
def f9 : Fn := ⟨1, 1, (.cons (.ret (.and (.blt (.isi "int") (.cons (.slot 0) .nil)) (.not (.blt (.isi "bool") (.cons (.slot 0) .nil))))) .nil)⟩
def f10 : Fn := ⟨2, 1, (.cons (.ret (.and (.blt (.isi "tuple") (.cons (.slot 0) .nil)) (.and (.cmp .gt (.cbl .len (.val (.slot 0))) (.lit (.int 0))) (.cbl .all (.comp [1] [1] true (.seq (.val (.slot 0))) .nil (.call 9 (.cons (.slot 1) .nil) [])))))) .nil)⟩
def f11 : Fn := ⟨2, 2, (.cons (.ret (.and (.call 10 (.cons (.slot 1) .nil) []) (.cmp .eq (.cbl .len (.val (.slot 1))) (.cbl .len (.val (.slot 0)))))) .nil)⟩
def f12 : Fn := ⟨3, 3, (.cons (.ite (.not (.slot 0)) (.cons .never .nil) .nil) .nil)⟩
def f13 : Fn := ⟨3, 3, (.cons (.expr (.call 12 (.cons (.call 11 (.cons (.slot 0) (.cons (.slot 1) .nil)) []) (.cons (.slot 2) .nil)) [(.int (-1))])) .nil)⟩
def f14 : Fn := ⟨1, 1, (.cons (.ret (.sub (.call 7 (.cons (.slot 0) .nil) []) (.lit (.int 0)))) .nil)⟩
def f15 : Fn := ⟨1, 1, (.cons (.ret (.cbl .len (.val (.call 7 (.cons (.slot 0) .nil) [])))) .nil)⟩
def f16 : Fn := ⟨2, 2, (.cons (.expr (.call 13 (.cons (.slot 0) (.cons (.slot 1) .nil)) [(.str (PySem.Str.ofString "other"))])) (.cons (.ret (.call 8 (.cons (.slot 0) (.cons (.slot 1) .nil)) [])) .nil))⟩
def f17 : Fn := ⟨1, 1, (.cons (.ret (.call 5 (.cons (.slot 0) .nil) [])) .nil)⟩
def f18 : Fn := ⟨2, 2, (.cons (.expr (.call 13 (.cons (.slot 0) (.cons (.slot 1) .nil)) [(.str (PySem.Str.ofString "other"))])) (.cons (.ret (.cmp .eq (.call 5 (.cons (.slot 0) .nil) []) (.call 5 (.cons (.slot 1) .nil) []))) .nil))⟩
def f19 : Fn := ⟨1, 1, (.cons (.ret (.mk (.disp (.cons (.slc (.slot 0) .no (.so (.lit (.int 63)))) (.cons (.lit (.int 0)) (.cons (.lit (.int 0)) (.cons (.lit (.int 0)) .nil))))))) .nil)⟩
def f20 : Fn := ⟨6, 2, (.cons (.sets (.slot 0) (.lit (.int 3)) (.bin .add (.sub (.slot 0) (.lit (.int 3))) (.lit (.int 1)))) (.cons (.ite (.cmp .eq (.sub (.slot 0) (.lit (.int 0))) (.mk (.disp .nil))) (.cons (.ret (.bin .mod (.blt .int (.cons (.bin .add (.bin .mul (.lit (.int 9)) (.sub (.slot 0) (.lit (.int 3)))) (.lit (.int 2))) .nil)) (.slot 1))) .nil) .nil) (.cons (.ite (.cmp .gt (.sub (.slot 0) (.lit (.int 2))) (.lit (.int 0))) (.cons (.asg 2 (.bin .mod (.blt .int (.cons (.sub (.slot 0) (.lit (.int 2))) .nil)) (.slot 1))) (.cons (.sets (.slot 0) (.lit (.int 2)) (.bin .fdiv (.sub (.slot 0) (.lit (.int 2))) (.slot 1))) (.cons (.ret (.slot 2)) .nil))) .nil) (.cons (.asg 3 (.sub (.slot 0) (.lit (.int 1)))) (.cons (.sets (.slot 0) (.lit (.int 1)) (.bin .add (.slot 3) (.lit (.int 1)))) (.cons (.asg 4 (.sub (.sub (.slot 0) (.lit (.int 0))) (.bin .mod (.blt .int (.cons (.slot 3) .nil)) (.cbl .len (.val (.sub (.slot 0) (.lit (.int 0)))))))) (.cons (.ite (.and (.cmp .ge (.slot 4) (.bin .pow (.lit (.int 10)) (.lit (.int 18)))) (.cmp .lt (.slot 3) (.cbl .len (.val (.sub (.slot 0) (.lit (.int 0))))))) (.cons (.sets (.slot 0) (.lit (.int 2)) (.bin .fdiv (.slot 4) (.slot 1))) (.cons (.ret (.bin .mod (.blt .int (.cons (.slot 4) .nil)) (.slot 1))) .nil)) .nil) (.cons (.asg 5 (.bin .mod (.blt .int (.cons (.bin .pow (.bin .add (.bin .add (.bin .mod (.blt .int (.cons (.slot 4) .nil)) (.lit (.int 1999999327))) (.bin .mul (.lit (.int 12113)) (.sub (.slot 0) (.lit (.int 3))))) (.lit (.int 109))) (.lit (.int 3))) .nil)) (.lit (.int 2147482507)))) (.cons (.asg 5 (.bin .mod (.blt .int (.cons (.bin .pow (.bin .add (.bin .add (.slot 5) (.bin .mul (.bin .mul (.lit (.int 1123)) (.sub (.slot 0) (.lit (.int 3)))) (.sub (.slot 0) (.lit (.int 3))))) (.lit (.int 83))) (.lit (.int 5))) .nil)) (.lit (.int 2147482501)))) (.cons (.ret (.bin .mod (.blt .int (.cons (.bin .fdiv (.slot 5) (.lit (.int 64))) .nil)) (.slot 1))) .nil))))))))))⟩
def f21 : Fn := ⟨3, 1, (.cons (.asg 1 (.cbl .len (.val (.slot 0)))) (.cons (.ret (.cbl .tuple (.comp [2] [2] true (.rng1 (.slot 1)) .nil (.sub (.slot 0) (.bin .mod (.blt .int (.cons (.bin .sub (.slot 1) (.slot 2)) .nil)) (.slot 1)))))) .nil))⟩
def f22 : Fn := ⟨4, 2, (.cons (.asg 2 (.cbl .len (.val (.slot 0)))) (.cons (.ret (.cbl .tuple (.comp [3] [3] true (.rng1 (.slot 2)) .nil (.sub (.slot 0) (.bin .mod (.blt .int (.cons (.bin .sub (.slot 3) (.slot 1)) .nil)) (.slot 2)))))) .nil))⟩
def f23 : Fn := ⟨8, 2, (.cons (.par [2, 3] (.cons (.cbl .len (.val (.slot 0))) (.cons (.mk (.comp [4] [4] true (.seq (.val (.slot 0))) .nil (.lit (.int 0)))) .nil))) (.cons (.for [5] true (.rng1 (.slot 2)) (.cons (.ite (.cmp .ne (.sub (.slot 0) (.slot 5)) (.lit (.int 0))) (.cons (.for [6] true (.rng1 (.slot 2)) (.cons (.asg 7 (.bin .mod (.blt .int (.cons (.bin .add (.slot 5) (.slot 6)) .nil)) (.slot 2))) (.cons (.sets (.slot 3) (.slot 7) (.bin .add (.sub (.slot 3) (.slot 7)) (.bin .mul (.sub (.slot 0) (.slot 5)) (.sub (.slot 1) (.slot 6))))) .nil))) .nil) .nil) .nil)) (.cons (.ret (.cbl .tuple (.val (.slot 3)))) .nil)))⟩
def f24 : Fn := ⟨5, 2, (.cons (.asg 2 (.cbl .len (.val (.slot 0)))) (.cons (.ret (.cbl .tuple (.comp [4] [4] true (.rng1 (.slot 2)) .nil (.cbl .sum (.comp [3] [3] true (.rng1 (.slot 2)) .nil (.bin .mul (.sub (.slot 0) (.bin .mod (.blt .int (.cons (.bin .add (.slot 3) (.slot 4)) .nil)) (.slot 2))) (.sub (.slot 1) (.slot 3)))))))) .nil))⟩
def f25 : Fn := ⟨8, 3, (.cons (.ite (.cmp .eq (.slot 2) (.lit (.int 0))) (.cons (.ret (.cbl .tuple (.comp [3] [3] true (.rng1 (.slot 1)) .nil (.call 20 (.cons (.slot 0) (.cons (.lit (.int 2)) .nil)) [])))) .nil) .nil) (.cons (.ite (.cmp .eq (.slot 2) (.lit (.int 1))) (.cons (.ret (.cbl .tuple (.comp [3] [3] true (.rng1 (.slot 1)) .nil (.bin .sub (.call 20 (.cons (.slot 0) (.cons (.lit (.int 5)) .nil)) []) (.lit (.int 2)))))) .nil) .nil) (.cons (.ite (.cmp .eq (.slot 2) (.lit (.int 2))) (.cons (.ret (.cbl .tuple (.comp [3] [3] true (.rng1 (.slot 1)) .nil (.bin .sub (.call 20 (.cons (.slot 0) (.cons (.lit (.int 99)) .nil)) []) (.lit (.int 49)))))) .nil) .nil) (.cons (.asg 4 (.mk (.comp [5] [5] true (.rng2 (.lit (.int 1)) (.bin .add (.slot 1) (.lit (.int 1)))) (.cons (.cmp .eq (.bin .mod (.slot 1) (.slot 5)) (.lit (.int 0))) .nil) (.slot 5)))) (.cons (.asg 6 (.sub (.slot 4) (.call 20 (.cons (.slot 0) (.cons (.cbl .len (.val (.slot 4))) .nil)) []))) (.cons (.asg 7 (.mk (.comp [3] [3] true (.rng1 (.slot 6)) .nil (.bin .sub (.call 20 (.cons (.slot 0) (.cons (.lit (.int 3)) .nil)) []) (.blt .int (.cons (.cmp .eq (.slot 2) (.lit (.int 4))) .nil)))))) (.cons (.ret (.cbl .tuple (.comp [3] [3] true (.rng1 (.slot 1)) .nil (.sub (.slot 7) (.bin .mod (.blt .int (.cons (.slot 3) .nil)) (.slot 6)))))) .nil)))))))⟩
def f26 : Fn := ⟨4, 1, (.cons (.asg 1 (.call 21 (.cons (.slot 0) .nil) [])) (.cons (.asg 2 (.mk (.comp [3] [3] true (.rng1 (.cbl .len (.val (.slot 0)))) .nil (.call 22 (.cons (.slot 0) (.cons (.slot 3) .nil)) [])))) (.cons (.ret (.mk (.sset (.val (.bin .add (.slot 2) (.mk (.comp [3] [3] true (.rng1 (.cbl .len (.val (.slot 0)))) .nil (.call 22 (.cons (.slot 1) (.cons (.slot 3) .nil)) [])))))))) .nil)))⟩
def f27 : Fn := ⟨4, 2, (.cons (.asg 2 (.call 21 (.cons (.slot 0) .nil) [])) (.cons (.for [3] true (.rng1 (.cbl .len (.val (.slot 0)))) (.cons (.ite (.cmp .eq (.call 22 (.cons (.slot 0) (.cons (.slot 3) .nil)) []) (.slot 1)) (.cons (.ret (.tupd (.cons (.lit (.str (PySem.Str.ofString "turned"))) (.cons (.slot 3) .nil)))) .nil) .nil) .nil)) (.cons (.for [3] true (.rng1 (.cbl .len (.val (.slot 0)))) (.cons (.ite (.cmp .eq (.call 22 (.cons (.slot 2) (.cons (.slot 3) .nil)) []) (.slot 1)) (.cons (.ret (.tupd (.cons (.lit (.str (PySem.Str.ofString "mirrored"))) (.cons (.slot 3) .nil)))) .nil) .nil) .nil)) (.cons (.ret (.lit .non)) .nil))))⟩
def f28 : Fn := ⟨7, 2, (.cons (.par [2, 3] (.cons (.call 20 (.cons (.slot 0) (.cons (.lit (.int 6)) .nil)) []) (.cons (.cbl .len (.val (.slot 1))) .nil))) (.cons (.asg 4 (.mk (.lst (.val (.call 22 (.cons (.ite (.cmp .isin (.slot 2) (.tupd (.cons (.lit (.int 1)) (.cons (.lit (.int 3)) .nil)))) (.call 21 (.cons (.slot 1) .nil) []) (.slot 1)) (.cons (.call 20 (.cons (.slot 0) (.cons (.slot 3) .nil)) []) .nil)) []))))) (.cons (.par [5, 6] (.cons (.call 20 (.cons (.slot 0) (.cons (.slot 3) .nil)) []) (.cons (.call 20 (.cons (.slot 0) (.cons (.slot 3) .nil)) []) .nil))) (.cons (.ite (.or (.cmp .eq (.slot 2) (.lit (.int 2))) (.cmp .eq (.slot 2) (.lit (.int 3)))) (.cons (.sets (.slot 4) (.slot 5) (.bin .add (.sub (.slot 4) (.slot 5)) (.lit (.int 1)))) .nil) (.cons (.ite (.cmp .eq (.slot 2) (.lit (.int 4))) (.cons (.set2 (.slot 4) (.slot 5) (.slot 4) (.slot 6) (.tupd (.cons (.sub (.slot 4) (.slot 6)) (.cons (.sub (.slot 4) (.slot 5)) .nil)))) .nil) (.cons (.ite (.cmp .eq (.slot 2) (.lit (.int 5))) (.cons (.ret (.call 25 (.cons (.slot 0) (.cons (.slot 3) (.cons (.call 20 (.cons (.slot 0) (.cons (.lit (.int 5)) .nil)) []) .nil))) [])) .nil) .nil) .nil)) .nil)) (.cons (.ret (.cbl .tuple (.val (.slot 4)))) .nil)))))⟩
def f29 : Fn := ⟨6, 2, (.cons (.par [2, 3] (.cons (.call 26 (.cons (.slot 0) .nil) []) (.cons (.call 27 (.cons (.slot 0) (.cons (.slot 1) .nil)) []) .nil))) (.cons (.asg 4 (.mk (.disp (.cons (.call 14 (.cons (.slot 0) .nil) []) (.cons (.call 15 (.cons (.slot 0) .nil) []) (.cons (.call 16 (.cons (.slot 0) (.cons (.slot 1) .nil)) []) .nil)))))) (.cons (.ite (.or (.rpr true (.slot 4) (.mk (.disp (.cons (.sub (.slot 2) (.lit (.int 0))) (.cons (.cbl .len (.val (.slot 2))) (.cons (.slot 3) .nil)))))) (.cmp .ne (.bin .mod (.bin .mul (.lit (.int 2)) (.cbl .len (.val (.slot 0)))) (.cbl .len (.val (.slot 2)))) (.lit (.int 0)))) (.cons (.ret (.lit (.bl false))) .nil) .nil) (.cons (.ite (.or (.cmp .ne (.isn false (.slot 3)) (.cmp .notin (.slot 1) (.slot 2))) (.cmp .ne (.cmp .eq (.call 14 (.cons (.slot 1) .nil) []) (.sub (.slot 2) (.lit (.int 0)))) (.cmp .isin (.slot 1) (.slot 2)))) (.cons (.ret (.lit (.bl false))) .nil) .nil) (.cons (.ite (.isn false (.slot 3)) (.cons (.ret (.isn false (.call 16 (.cons (.slot 1) (.cons (.slot 0) .nil)) []))) .nil) .nil) (.cons (.asg 5 (.call 16 (.cons (.slot 1) (.cons (.slot 0) .nil)) [])) (.cons (.ite (.isn false (.slot 5)) (.cons (.ret (.lit (.bl false))) .nil) .nil) (.cons (.ite (.cmp .ne (.call 22 (.cons (.ite (.cmp .eq (.sub (.slot 5) (.lit (.int 0))) (.lit (.str (PySem.Str.ofString "turned")))) (.slot 1) (.call 21 (.cons (.slot 1) .nil) [])) (.cons (.sub (.slot 5) (.lit (.int 1))) .nil)) []) (.slot 0)) (.cons (.ret (.lit (.bl false))) .nil) .nil) (.cons (.ret (.and (.isb false true (.call 18 (.cons (.slot 0) (.cons (.slot 1) .nil)) [])) (.and (.cmp .eq (.call 17 (.cons (.slot 0) .nil) []) (.call 17 (.cons (.slot 1) .nil) [])) (.cmp .eq (.sub (.slot 5) (.lit (.int 0))) (.sub (.slot 3) (.lit (.int 0))))))) .nil)))))))))⟩
def f30 : Fn := ⟨4, 1, (.cons (.asg 1 (.call 19 (.cons (.slot 0) .nil) [])) (.cons (.for [2] true (.rng1 (.lit (.int 5))) (.cons (.asg 3 (.call 25 (.cons (.slot 1) (.cons (.bin .add (.lit (.int 1)) (.call 20 (.cons (.slot 1) (.cons (.lit (.int 12)) .nil)) [])) (.cons (.call 20 (.cons (.slot 1) (.cons (.lit (.int 5)) .nil)) []) .nil))) [])) (.cons (.ite (.or (.not (.call 29 (.cons (.slot 3) (.cons (.call 28 (.cons (.slot 1) (.cons (.slot 3) .nil)) []) .nil)) [])) (.not (.call 29 (.cons (.slot 3) (.cons (.slot 3) .nil)) []))) (.cons (.ret (.lit (.bl false))) .nil) .nil) .nil))) (.cons (.ret (.lit (.bl true))) .nil)))⟩
def T : List Fn := [f0, f1, f2, f3, f4, f5, f6, f7, f8, f9, f10, f11, f12, f13, f14, f15, f16, f17, f18, f19, f20, f21, f22, f23, f24, f25, f26, f27, f28, f29, f30]
def d0 : DefI := ⟨"beats_by", ["voice"], ["voice", "beat", "weight"], defArgs (top 1), defBody (top 1), defScope (top 1), []⟩
def d1 : DefI := ⟨"product_by", ["one", "other"], ["one", "other", "size", "struck", "beat", "late"], defArgs (top 2), defBody (top 2), defScope (top 2), []⟩
def d2 : DefI := ⟨"turned_by", ["voice", "k"], ["voice", "k", "first"], defArgs (top 3), defBody (top 3), defScope (top 3), []⟩
def d3 : DefI := ⟨"mirrored_by", ["voice"], ["voice"], defArgs (top 4), defBody (top 4), defScope (top 4), []⟩
def d4 : DefI := ⟨"crossed_by", ["one", "other"], ["one", "other"], defArgs (top 8), defBody (top 8), defScope (top 8), []⟩
def d5 : DefI := ⟨"echo_by", ["voice"], ["voice"], defArgs (top 9), defBody (top 9), defScope (top 9), []⟩
def d6 : DefI := ⟨"turns_by", ["voice"], ["voice", "k"], defArgs (top 10), defBody (top 10), defScope (top 10), []⟩
def d7 : DefI := ⟨"kin_by", ["voice"], ["voice"], defArgs (top 11), defBody (top 11), defScope (top 11), []⟩
def d8 : DefI := ⟨"step_by", ["one", "other"], ["one", "other", "word", "voices"], defArgs (top 12), defBody (top 12), defScope (top 12), []⟩
def d9 : DefI := ⟨"is_integer", ["thing"], ["thing"], defArgs (top 18), defBody (top 18), defScope (top 18), []⟩
def d10 : DefI := ⟨"is_voice", ["thing"], ["thing", "weight"], defArgs (top 19), defBody (top 19), defScope (top 19), []⟩
def d11 : DefI := ⟨"is_like", ["one", "thing"], ["one", "thing"], defArgs (top 20), defBody (top 20), defScope (top 20), []⟩
def d12 : DefI := ⟨"want", ["holds", "word", "at"], ["holds", "word", "at"], defArgs (top 22), defBody (top 22), defScope (top 22), [(.int (-1))]⟩
def d13 : DefI := ⟨"want_like", ["one", "thing", "name"], ["one", "thing", "name"], defArgs (top 23), defBody (top 23), defScope (top 23), [(.str (PySem.Str.ofString "other"))]⟩
def d14 : DefI := ⟨"least_kin", ["voice"], ["voice"], defArgs (top 25), defBody (top 25), defScope (top 25), []⟩
def d15 : DefI := ⟨"kin_count", ["voice"], ["voice"], defArgs (top 26), defBody (top 26), defScope (top 26), []⟩
def d16 : DefI := ⟨"kin_step", ["one", "other"], ["one", "other"], defArgs (top 27), defBody (top 27), defScope (top 27), []⟩
def d17 : DefI := ⟨"echo_of", ["voice"], ["voice"], defArgs (top 29), defBody (top 29), defScope (top 29), []⟩
def d18 : DefI := ⟨"same_echo", ["one", "other"], ["one", "other"], defArgs (top 30), defBody (top 30), defScope (top 30), []⟩
def d19 : DefI := ⟨"_law_feed", ["_law_script"], ["_law_script"], defArgs (top 32), defBody (top 32), defScope (top 32), []⟩
def d20 : DefI := ⟨"_law_draw", ["_law_feed_here", "_law_bound"], ["_law_feed_here", "_law_bound", "_law_digit", "_law_spot", "_law_cell", "_law_blend"], defArgs (top 33), defBody (top 33), defScope (top 33), []⟩
def d21 : DefI := ⟨"_law_mirror", ["_law_voice_here"], ["_law_voice_here", "_law_wide", "_law_j"], defArgs (top 34), defBody (top 34), defScope (top 34), []⟩
def d22 : DefI := ⟨"_law_turn", ["_law_voice_here", "_law_k"], ["_law_voice_here", "_law_k", "_law_wide", "_law_j"], defArgs (top 35), defBody (top 35), defScope (top 35), []⟩
def d23 : DefI := ⟨"_law_product", ["_law_one", "_law_other"], ["_law_one", "_law_other", "_law_wide", "_law_found", "_law_weight", "_law_i", "_law_j", "_law_spot"], defArgs (top 36), defBody (top 36), defScope (top 36), []⟩
def d24 : DefI := ⟨"_law_cross", ["_law_one", "_law_other"], ["_law_one", "_law_other", "_law_wide", "_law_j", "_law_k"], defArgs (top 37), defBody (top 37), defScope (top 37), []⟩
def d25 : DefI := ⟨"_law_voice", ["_law_feed_here", "_law_wide", "_law_way"], ["_law_feed_here", "_law_wide", "_law_way", "_law_beat", "_law_steps", "_law_k", "_law_step_here", "_law_some"], defArgs (top 38), defBody (top 38), defScope (top 38), []⟩
def d26 : DefI := ⟨"_law_kin", ["_law_voice_here"], ["_law_voice_here", "_law_late", "_law_found", "_law_k"], defArgs (top 39), defBody (top 39), defScope (top 39), []⟩
def d27 : DefI := ⟨"_law_step", ["_law_one", "_law_other"], ["_law_one", "_law_other", "_law_late", "_law_k"], defArgs (top 40), defBody (top 40), defScope (top 40), []⟩
def d28 : DefI := ⟨"_law_near", ["_law_feed_here", "_law_one"], ["_law_feed_here", "_law_one", "_law_way", "_law_wide", "_law_found", "_law_spot", "_law_far"], defArgs (top 41), defBody (top 41), defScope (top 41), []⟩
def d29 : DefI := ⟨"_law_is_told", ["_law_one", "_law_other"], ["_law_one", "_law_other", "_law_kin_here", "_law_step_here", "_law_told", "_law_back"], defArgs (top 42), defBody (top 42), defScope (top 42), []⟩
def d30 : DefI := ⟨"law", ["_law_script"], ["_law_script", "_law_feed_here", "_law_lap", "_law_one"], defArgs (top 43), defBody (top 43), defScope (top 43), []⟩
def ds : List DefI := [d0, d1, d2, d3, d4, d5, d6, d7, d8, d9, d10, d11, d12, d13, d14, d15, d16, d17, d18, d19, d20, d21, d22, d23, d24, d25, d26, d27, d28, d29, d30]
def G : GI := ⟨["all", "bool", "enumerate", "int", "isinstance", "len", "list", "range", "repr", "set", "sorted", "sum", "tuple"], [("MIRRORED", (.str (PySem.Str.ofString "mirrored"))), ("TURNED", (.str (PySem.Str.ofString "turned")))], fnsOf ds⟩
theorem chk : chkT G T ds = true := by decide +kernel
def e0 : He.DefD := ⟨("beats_by", none), "beats_by", "beats_by", d0.params, d0.body, d0.scope, [], []⟩
def e1 : He.DefD := ⟨("product_by", none), "product_by", "product_by", d1.params, d1.body, d1.scope, [], []⟩
def e2 : He.DefD := ⟨("turned_by", none), "turned_by", "turned_by", d2.params, d2.body, d2.scope, [], []⟩
def e3 : He.DefD := ⟨("mirrored_by", none), "mirrored_by", "mirrored_by", d3.params, d3.body, d3.scope, [], []⟩
def e4 : He.DefD := ⟨("crossed_by", none), "crossed_by", "crossed_by", d4.params, d4.body, d4.scope, [], []⟩
def e5 : He.DefD := ⟨("echo_by", none), "echo_by", "echo_by", d5.params, d5.body, d5.scope, [], []⟩
def e6 : He.DefD := ⟨("turns_by", none), "turns_by", "turns_by", d6.params, d6.body, d6.scope, [], []⟩
def e7 : He.DefD := ⟨("kin_by", none), "kin_by", "kin_by", d7.params, d7.body, d7.scope, [], []⟩
def e8 : He.DefD := ⟨("step_by", none), "step_by", "step_by", d8.params, d8.body, d8.scope, [], []⟩
def e9 : He.DefD := ⟨("is_integer", none), "is_integer", "is_integer", d9.params, d9.body, d9.scope, [], []⟩
def e10 : He.DefD := ⟨("is_voice", none), "is_voice", "is_voice", d10.params, d10.body, d10.scope, [], []⟩
def e11 : He.DefD := ⟨("is_like", none), "is_like", "is_like", d11.params, d11.body, d11.scope, [], []⟩
def e12 : He.DefD := ⟨("want", none), "want", "want", d12.params, d12.body, d12.scope, [.int (-1)], []⟩
def e13 : He.DefD := ⟨("want_like", none), "want_like", "want_like", d13.params, d13.body, d13.scope, [.str "other"], []⟩
def e14 : He.DefD := ⟨("least_kin", none), "least_kin", "least_kin", d14.params, d14.body, d14.scope, [], []⟩
def e15 : He.DefD := ⟨("kin_count", none), "kin_count", "kin_count", d15.params, d15.body, d15.scope, [], []⟩
def e16 : He.DefD := ⟨("kin_step", none), "kin_step", "kin_step", d16.params, d16.body, d16.scope, [], []⟩
def e17 : He.DefD := ⟨("echo_of", none), "echo_of", "echo_of", d17.params, d17.body, d17.scope, [], []⟩
def e18 : He.DefD := ⟨("same_echo", none), "same_echo", "same_echo", d18.params, d18.body, d18.scope, [], []⟩
def e19 : He.DefD := ⟨("_law_feed", none), "_law_feed", "_law_feed", d19.params, d19.body, d19.scope, [], []⟩
def e20 : He.DefD := ⟨("_law_draw", none), "_law_draw", "_law_draw", d20.params, d20.body, d20.scope, [], []⟩
def e21 : He.DefD := ⟨("_law_mirror", none), "_law_mirror", "_law_mirror", d21.params, d21.body, d21.scope, [], []⟩
def e22 : He.DefD := ⟨("_law_turn", none), "_law_turn", "_law_turn", d22.params, d22.body, d22.scope, [], []⟩
def e23 : He.DefD := ⟨("_law_product", none), "_law_product", "_law_product", d23.params, d23.body, d23.scope, [], []⟩
def e24 : He.DefD := ⟨("_law_cross", none), "_law_cross", "_law_cross", d24.params, d24.body, d24.scope, [], []⟩
def e25 : He.DefD := ⟨("_law_voice", none), "_law_voice", "_law_voice", d25.params, d25.body, d25.scope, [], []⟩
def e26 : He.DefD := ⟨("_law_kin", none), "_law_kin", "_law_kin", d26.params, d26.body, d26.scope, [], []⟩
def e27 : He.DefD := ⟨("_law_step", none), "_law_step", "_law_step", d27.params, d27.body, d27.scope, [], []⟩
def e28 : He.DefD := ⟨("_law_near", none), "_law_near", "_law_near", d28.params, d28.body, d28.scope, [], []⟩
def e29 : He.DefD := ⟨("_law_is_told", none), "_law_is_told", "_law_is_told", d29.params, d29.body, d29.scope, [], []⟩
def e30 : He.DefD := ⟨("law", none), "law", "law", d30.params, d30.body, d30.scope, [], []⟩
def fn : List He.DefD := [e0, e1, e2, e3, e4, e5, e6, e7, e8, e9, e10, e11, e12, e13, e14, e15, e16, e17, e18, e19, e20, e21, e22, e23, e24, e25, e26, e27, e28, e29, e30]
def fa : List He.Fa := [.glo "beats_by", .glo "product_by", .glo "turned_by", .glo "mirrored_by", .glo "crossed_by", .glo "echo_by", .glo "turns_by", .glo "kin_by", .glo "step_by", .glo "is_integer", .glo "is_voice", .glo "is_like", .glo "want", .glo "want_like", .glo "least_kin", .glo "kin_count", .glo "kin_step", .glo "echo_of", .glo "same_echo", .glo "_law_feed", .glo "_law_draw", .glo "_law_mirror", .glo "_law_turn", .glo "_law_product", .glo "_law_cross", .glo "_law_voice", .glo "_law_kin", .glo "_law_step", .glo "_law_near", .glo "_law_is_told", .glo "law", .free "all", .free "bool", .free "enumerate", .free "int", .free "isinstance", .free "len", .free "list", .free "range", .free "repr", .free "set", .free "sorted", .free "sum", .free "tuple", .str "MIRRORED" "mirrored", .str "TURNED" "turned"]
abbrev R : PySem.W.OpenRow := PySem.W.OpenLaw.row PySem.Challenge.rw_silentbeats_k32_whole_kin_by_all_turns
abbrev hk : PySem.W.Hook := He.hookD 4 fa fn
def ob (s : PySem.W.SharedT) : He.AlD := He.obsDG 4 fa fn (HandSHeadRun.getT s)
theorem ob_eq (s : PySem.W.SharedT) : ob s = hk.obs s.abs := He.obsDG_eq (HandSHeadRun.getT_eq s)
def loose0 : List PySem.Str := ["__name__", "beats_by", "product_by", "turned_by", "mirrored_by", "TURNED", "MIRRORED", "crossed_by", "echo_by", "turns_by", "kin_by", "step_by"]
def loose1 : List PySem.Str := ["BeatError", "VoiceError", "NotUsable", "is_integer", "is_voice", "is_like", "want", "want_like", "least_kin", "kin_count", "kin_step", "echo_of"]
def loose2 : List PySem.Str := ["same_echo", "_law_feed", "_law_draw", "_law_mirror", "_law_turn", "_law_product", "_law_cross", "_law_voice", "_law_kin", "_law_step", "_law_near", "_law_is_told"]
def loose : List PySem.Str := loose0 ++ loose1 ++ loose2
theorem run (w : World) : HandSHeadRun.RunEq R (PySem.W.view R.prog [43]) hk ob 4000 loose w := by
  intro os
  kernel_rfl
section
variable {K : PySem.W.Frag} {h : Heap} {mg : Str → Option Value}
theorem ok0 (X : K.In h) (Gm : h.Ns mainGlobals mg) (c : He.SaysD fa fn K) : DefOk K mg d0 := by
  obtain ⟨fd, F⟩ := c.def_ 0 (d := e0) rfl
  have m := He.glo_ok X Gm (c.fact 0 (f := .glo "beats_by") rfl)
  exact defOk0 (d := d0) rfl F m fun _ _ _ _ _ _ us hl => match us, hl with | [_], _ => rfl
theorem ok1 (X : K.In h) (Gm : h.Ns mainGlobals mg) (c : He.SaysD fa fn K) : DefOk K mg d1 := by
  obtain ⟨fd, F⟩ := c.def_ 1 (d := e1) rfl
  have m := He.glo_ok X Gm (c.fact 1 (f := .glo "product_by") rfl)
  exact defOk0 (d := d1) rfl F m fun _ _ _ _ _ _ us hl => match us, hl with | [_, _], _ => rfl
theorem ok2 (X : K.In h) (Gm : h.Ns mainGlobals mg) (c : He.SaysD fa fn K) : DefOk K mg d2 := by
  obtain ⟨fd, F⟩ := c.def_ 2 (d := e2) rfl
  have m := He.glo_ok X Gm (c.fact 2 (f := .glo "turned_by") rfl)
  exact defOk0 (d := d2) rfl F m fun _ _ _ _ _ _ us hl => match us, hl with | [_, _], _ => rfl
theorem ok3 (X : K.In h) (Gm : h.Ns mainGlobals mg) (c : He.SaysD fa fn K) : DefOk K mg d3 := by
  obtain ⟨fd, F⟩ := c.def_ 3 (d := e3) rfl
  have m := He.glo_ok X Gm (c.fact 3 (f := .glo "mirrored_by") rfl)
  exact defOk0 (d := d3) rfl F m fun _ _ _ _ _ _ us hl => match us, hl with | [_], _ => rfl
theorem ok4 (X : K.In h) (Gm : h.Ns mainGlobals mg) (c : He.SaysD fa fn K) : DefOk K mg d4 := by
  obtain ⟨fd, F⟩ := c.def_ 4 (d := e4) rfl
  have m := He.glo_ok X Gm (c.fact 4 (f := .glo "crossed_by") rfl)
  exact defOk0 (d := d4) rfl F m fun _ _ _ _ _ _ us hl => match us, hl with | [_, _], _ => rfl
theorem ok5 (X : K.In h) (Gm : h.Ns mainGlobals mg) (c : He.SaysD fa fn K) : DefOk K mg d5 := by
  obtain ⟨fd, F⟩ := c.def_ 5 (d := e5) rfl
  have m := He.glo_ok X Gm (c.fact 5 (f := .glo "echo_by") rfl)
  exact defOk0 (d := d5) rfl F m fun _ _ _ _ _ _ us hl => match us, hl with | [_], _ => rfl
theorem ok6 (X : K.In h) (Gm : h.Ns mainGlobals mg) (c : He.SaysD fa fn K) : DefOk K mg d6 := by
  obtain ⟨fd, F⟩ := c.def_ 6 (d := e6) rfl
  have m := He.glo_ok X Gm (c.fact 6 (f := .glo "turns_by") rfl)
  exact defOk0 (d := d6) rfl F m fun _ _ _ _ _ _ us hl => match us, hl with | [_], _ => rfl
theorem ok7 (X : K.In h) (Gm : h.Ns mainGlobals mg) (c : He.SaysD fa fn K) : DefOk K mg d7 := by
  obtain ⟨fd, F⟩ := c.def_ 7 (d := e7) rfl
  have m := He.glo_ok X Gm (c.fact 7 (f := .glo "kin_by") rfl)
  exact defOk0 (d := d7) rfl F m fun _ _ _ _ _ _ us hl => match us, hl with | [_], _ => rfl
theorem ok8 (X : K.In h) (Gm : h.Ns mainGlobals mg) (c : He.SaysD fa fn K) : DefOk K mg d8 := by
  obtain ⟨fd, F⟩ := c.def_ 8 (d := e8) rfl
  have m := He.glo_ok X Gm (c.fact 8 (f := .glo "step_by") rfl)
  exact defOk0 (d := d8) rfl F m fun _ _ _ _ _ _ us hl => match us, hl with | [_, _], _ => rfl
theorem ok9 (X : K.In h) (Gm : h.Ns mainGlobals mg) (c : He.SaysD fa fn K) : DefOk K mg d9 := by
  obtain ⟨fd, F⟩ := c.def_ 9 (d := e9) rfl
  have m := He.glo_ok X Gm (c.fact 9 (f := .glo "is_integer") rfl)
  exact defOk0 (d := d9) rfl F m fun _ _ _ _ _ _ us hl => match us, hl with | [_], _ => rfl
theorem ok10 (X : K.In h) (Gm : h.Ns mainGlobals mg) (c : He.SaysD fa fn K) : DefOk K mg d10 := by
  obtain ⟨fd, F⟩ := c.def_ 10 (d := e10) rfl
  have m := He.glo_ok X Gm (c.fact 10 (f := .glo "is_voice") rfl)
  exact defOk0 (d := d10) rfl F m fun _ _ _ _ _ _ us hl => match us, hl with | [_], _ => rfl
theorem ok11 (X : K.In h) (Gm : h.Ns mainGlobals mg) (c : He.SaysD fa fn K) : DefOk K mg d11 := by
  obtain ⟨fd, F⟩ := c.def_ 11 (d := e11) rfl
  have m := He.glo_ok X Gm (c.fact 11 (f := .glo "is_like") rfl)
  exact defOk0 (d := d11) rfl F m fun _ _ _ _ _ _ us hl => match us, hl with | [_, _], _ => rfl
theorem ok12 (X : K.In h) (Gm : h.Ns mainGlobals mg) (c : He.SaysD fa fn K) : DefOk K mg d12 := by
  obtain ⟨fd, F⟩ := c.def_ 12 (d := e12) rfl
  have m := He.glo_ok X Gm (c.fact 12 (f := .glo "want") rfl)
  refine defOkD (d := d12) F m fun j hj => ?_
  match j, hj with
  | 0, _ =>
    obtain ⟨ds, v1, b1⟩ := FunD.binds1 (ps := d12.ps) F 2 0 (List.cons_ne_nil _ _) rfl fun _ _ _ _ _ _ _ us its h1 h2 => match us, its, h1, h2 with | [_, _], [_], _, _ => ⟨_, rfl, rfl⟩
    exact ⟨ds, _, b1, v1, fun _ _ => (.cons (.int _) .nil)⟩
  | 1, _ =>
    obtain ⟨ds, v1, b1⟩ := FunD.binds1 (ps := d12.ps) F 3 1 (List.cons_ne_nil _ _) rfl fun _ _ _ _ _ _ _ us its h1 h2 => match us, its, h1, h2 with | [_, _, _], [_], _, _ => ⟨_, rfl, rfl⟩
    exact ⟨ds, _, b1, v1, fun _ _ => .nil⟩
theorem ok13 (X : K.In h) (Gm : h.Ns mainGlobals mg) (c : He.SaysD fa fn K) : DefOk K mg d13 := by
  obtain ⟨fd, F⟩ := c.def_ 13 (d := e13) rfl
  have m := He.glo_ok X Gm (c.fact 13 (f := .glo "want_like") rfl)
  refine defOkD (d := d13) F m fun j hj => ?_
  match j, hj with
  | 0, _ =>
    obtain ⟨ds, v1, b1⟩ := FunD.binds1 (ps := d13.ps) F 2 0 (List.cons_ne_nil _ _) rfl fun _ _ _ _ _ _ _ us its h1 h2 => match us, its, h1, h2 with | [_, _], [_], _, _ => ⟨_, rfl, rfl⟩
    exact ⟨ds, _, b1, v1, fun _ _ => (.cons (.str _) .nil)⟩
  | 1, _ =>
    obtain ⟨ds, v1, b1⟩ := FunD.binds1 (ps := d13.ps) F 3 1 (List.cons_ne_nil _ _) rfl fun _ _ _ _ _ _ _ us its h1 h2 => match us, its, h1, h2 with | [_, _, _], [_], _, _ => ⟨_, rfl, rfl⟩
    exact ⟨ds, _, b1, v1, fun _ _ => .nil⟩
theorem ok14 (X : K.In h) (Gm : h.Ns mainGlobals mg) (c : He.SaysD fa fn K) : DefOk K mg d14 := by
  obtain ⟨fd, F⟩ := c.def_ 14 (d := e14) rfl
  have m := He.glo_ok X Gm (c.fact 14 (f := .glo "least_kin") rfl)
  exact defOk0 (d := d14) rfl F m fun _ _ _ _ _ _ us hl => match us, hl with | [_], _ => rfl
theorem ok15 (X : K.In h) (Gm : h.Ns mainGlobals mg) (c : He.SaysD fa fn K) : DefOk K mg d15 := by
  obtain ⟨fd, F⟩ := c.def_ 15 (d := e15) rfl
  have m := He.glo_ok X Gm (c.fact 15 (f := .glo "kin_count") rfl)
  exact defOk0 (d := d15) rfl F m fun _ _ _ _ _ _ us hl => match us, hl with | [_], _ => rfl
theorem ok16 (X : K.In h) (Gm : h.Ns mainGlobals mg) (c : He.SaysD fa fn K) : DefOk K mg d16 := by
  obtain ⟨fd, F⟩ := c.def_ 16 (d := e16) rfl
  have m := He.glo_ok X Gm (c.fact 16 (f := .glo "kin_step") rfl)
  exact defOk0 (d := d16) rfl F m fun _ _ _ _ _ _ us hl => match us, hl with | [_, _], _ => rfl
theorem ok17 (X : K.In h) (Gm : h.Ns mainGlobals mg) (c : He.SaysD fa fn K) : DefOk K mg d17 := by
  obtain ⟨fd, F⟩ := c.def_ 17 (d := e17) rfl
  have m := He.glo_ok X Gm (c.fact 17 (f := .glo "echo_of") rfl)
  exact defOk0 (d := d17) rfl F m fun _ _ _ _ _ _ us hl => match us, hl with | [_], _ => rfl
theorem ok18 (X : K.In h) (Gm : h.Ns mainGlobals mg) (c : He.SaysD fa fn K) : DefOk K mg d18 := by
  obtain ⟨fd, F⟩ := c.def_ 18 (d := e18) rfl
  have m := He.glo_ok X Gm (c.fact 18 (f := .glo "same_echo") rfl)
  exact defOk0 (d := d18) rfl F m fun _ _ _ _ _ _ us hl => match us, hl with | [_, _], _ => rfl
theorem ok19 (X : K.In h) (Gm : h.Ns mainGlobals mg) (c : He.SaysD fa fn K) : DefOk K mg d19 := by
  obtain ⟨fd, F⟩ := c.def_ 19 (d := e19) rfl
  have m := He.glo_ok X Gm (c.fact 19 (f := .glo "_law_feed") rfl)
  exact defOk0 (d := d19) rfl F m fun _ _ _ _ _ _ us hl => match us, hl with | [_], _ => rfl
theorem ok20 (X : K.In h) (Gm : h.Ns mainGlobals mg) (c : He.SaysD fa fn K) : DefOk K mg d20 := by
  obtain ⟨fd, F⟩ := c.def_ 20 (d := e20) rfl
  have m := He.glo_ok X Gm (c.fact 20 (f := .glo "_law_draw") rfl)
  exact defOk0 (d := d20) rfl F m fun _ _ _ _ _ _ us hl => match us, hl with | [_, _], _ => rfl
theorem ok21 (X : K.In h) (Gm : h.Ns mainGlobals mg) (c : He.SaysD fa fn K) : DefOk K mg d21 := by
  obtain ⟨fd, F⟩ := c.def_ 21 (d := e21) rfl
  have m := He.glo_ok X Gm (c.fact 21 (f := .glo "_law_mirror") rfl)
  exact defOk0 (d := d21) rfl F m fun _ _ _ _ _ _ us hl => match us, hl with | [_], _ => rfl
theorem ok22 (X : K.In h) (Gm : h.Ns mainGlobals mg) (c : He.SaysD fa fn K) : DefOk K mg d22 := by
  obtain ⟨fd, F⟩ := c.def_ 22 (d := e22) rfl
  have m := He.glo_ok X Gm (c.fact 22 (f := .glo "_law_turn") rfl)
  exact defOk0 (d := d22) rfl F m fun _ _ _ _ _ _ us hl => match us, hl with | [_, _], _ => rfl
theorem ok23 (X : K.In h) (Gm : h.Ns mainGlobals mg) (c : He.SaysD fa fn K) : DefOk K mg d23 := by
  obtain ⟨fd, F⟩ := c.def_ 23 (d := e23) rfl
  have m := He.glo_ok X Gm (c.fact 23 (f := .glo "_law_product") rfl)
  exact defOk0 (d := d23) rfl F m fun _ _ _ _ _ _ us hl => match us, hl with | [_, _], _ => rfl
theorem ok24 (X : K.In h) (Gm : h.Ns mainGlobals mg) (c : He.SaysD fa fn K) : DefOk K mg d24 := by
  obtain ⟨fd, F⟩ := c.def_ 24 (d := e24) rfl
  have m := He.glo_ok X Gm (c.fact 24 (f := .glo "_law_cross") rfl)
  exact defOk0 (d := d24) rfl F m fun _ _ _ _ _ _ us hl => match us, hl with | [_, _], _ => rfl
theorem ok25 (X : K.In h) (Gm : h.Ns mainGlobals mg) (c : He.SaysD fa fn K) : DefOk K mg d25 := by
  obtain ⟨fd, F⟩ := c.def_ 25 (d := e25) rfl
  have m := He.glo_ok X Gm (c.fact 25 (f := .glo "_law_voice") rfl)
  exact defOk0 (d := d25) rfl F m fun _ _ _ _ _ _ us hl => match us, hl with | [_, _, _], _ => rfl
theorem ok26 (X : K.In h) (Gm : h.Ns mainGlobals mg) (c : He.SaysD fa fn K) : DefOk K mg d26 := by
  obtain ⟨fd, F⟩ := c.def_ 26 (d := e26) rfl
  have m := He.glo_ok X Gm (c.fact 26 (f := .glo "_law_kin") rfl)
  exact defOk0 (d := d26) rfl F m fun _ _ _ _ _ _ us hl => match us, hl with | [_], _ => rfl
theorem ok27 (X : K.In h) (Gm : h.Ns mainGlobals mg) (c : He.SaysD fa fn K) : DefOk K mg d27 := by
  obtain ⟨fd, F⟩ := c.def_ 27 (d := e27) rfl
  have m := He.glo_ok X Gm (c.fact 27 (f := .glo "_law_step") rfl)
  exact defOk0 (d := d27) rfl F m fun _ _ _ _ _ _ us hl => match us, hl with | [_, _], _ => rfl
theorem ok28 (X : K.In h) (Gm : h.Ns mainGlobals mg) (c : He.SaysD fa fn K) : DefOk K mg d28 := by
  obtain ⟨fd, F⟩ := c.def_ 28 (d := e28) rfl
  have m := He.glo_ok X Gm (c.fact 28 (f := .glo "_law_near") rfl)
  exact defOk0 (d := d28) rfl F m fun _ _ _ _ _ _ us hl => match us, hl with | [_, _], _ => rfl
theorem ok29 (X : K.In h) (Gm : h.Ns mainGlobals mg) (c : He.SaysD fa fn K) : DefOk K mg d29 := by
  obtain ⟨fd, F⟩ := c.def_ 29 (d := e29) rfl
  have m := He.glo_ok X Gm (c.fact 29 (f := .glo "_law_is_told") rfl)
  exact defOk0 (d := d29) rfl F m fun _ _ _ _ _ _ us hl => match us, hl with | [_, _], _ => rfl
theorem ok30 (X : K.In h) (Gm : h.Ns mainGlobals mg) (c : He.SaysD fa fn K) : DefOk K mg d30 := by
  obtain ⟨fd, F⟩ := c.def_ 30 (d := e30) rfl
  have m := He.glo_ok X Gm (c.fact 30 (f := .glo "law") rfl)
  exact defOk0 (d := d30) rfl F m fun _ _ _ _ _ _ us hl => match us, hl with | [_], _ => rfl
theorem facts {P : Program} {w : World} {f : Addr} (X : K.In h) (Gm : h.Ns mainGlobals mg) (hf : mg ("law" : Str) = some (.ref f)) (c : He.SaysD fa fn K) :
    ∃ fd : FuncData, (∀ (s : Shared) (v : Value), BindsTo s fd ⟨[v], []⟩ [("_law_script", v)]) ∧ ∀ base : Heap, FnG P w K mg base (fun _ _ _ _ _ _ => False) 12 f fd ["_law_script"] (spEv K mg 1 (evF T 12 30)) := by
  obtain ⟨fd, F⟩ := c.def_ 30 (d := e30) rfl
  have e := hf.symm.trans (He.glo_ok X Gm (c.fact 30 (f := .glo "law") rfl))
  cases e
  have b := FunD.bindsA (ps := ["_law_script"]) F fun _ _ _ _ _ _ us hl => match us, hl with | [_], _ => rfl
  refine ⟨fd, fun s v => b s [v] rfl, fun base => tab_ok (G := G) (ds := ds) rfl chk ?_ ?_ ?_ 12 30 d30 rfl _ fd _ F⟩
  · intro d hd
    simp only [ds, List.mem_cons, List.not_mem_nil, or_false] at hd
    rcases hd with rfl | rfl | rfl | rfl | rfl | rfl | rfl | rfl | rfl | rfl | rfl | rfl | rfl | rfl | rfl | rfl | rfl | rfl | rfl | rfl | rfl | rfl | rfl | rfl | rfl | rfl | rfl | rfl | rfl | rfl | rfl
    · exact ok0 X Gm c
    · exact ok1 X Gm c
    · exact ok2 X Gm c
    · exact ok3 X Gm c
    · exact ok4 X Gm c
    · exact ok5 X Gm c
    · exact ok6 X Gm c
    · exact ok7 X Gm c
    · exact ok8 X Gm c
    · exact ok9 X Gm c
    · exact ok10 X Gm c
    · exact ok11 X Gm c
    · exact ok12 X Gm c
    · exact ok13 X Gm c
    · exact ok14 X Gm c
    · exact ok15 X Gm c
    · exact ok16 X Gm c
    · exact ok17 X Gm c
    · exact ok18 X Gm c
    · exact ok19 X Gm c
    · exact ok20 X Gm c
    · exact ok21 X Gm c
    · exact ok22 X Gm c
    · exact ok23 X Gm c
    · exact ok24 X Gm c
    · exact ok25 X Gm c
    · exact ok26 X Gm c
    · exact ok27 X Gm c
    · exact ok28 X Gm c
    · exact ok29 X Gm c
    · exact ok30 X Gm c
  · intro x hx
    simp only [G, List.mem_cons, List.not_mem_nil, or_false] at hx
    rcases hx with rfl | rfl | rfl | rfl | rfl | rfl | rfl | rfl | rfl | rfl | rfl | rfl | rfl
    · exact He.free_ok X Gm (c.fact 31 (f := .free "all") rfl)
    · exact He.free_ok X Gm (c.fact 32 (f := .free "bool") rfl)
    · exact He.free_ok X Gm (c.fact 33 (f := .free "enumerate") rfl)
    · exact He.free_ok X Gm (c.fact 34 (f := .free "int") rfl)
    · exact He.free_ok X Gm (c.fact 35 (f := .free "isinstance") rfl)
    · exact He.free_ok X Gm (c.fact 36 (f := .free "len") rfl)
    · exact He.free_ok X Gm (c.fact 37 (f := .free "list") rfl)
    · exact He.free_ok X Gm (c.fact 38 (f := .free "range") rfl)
    · exact He.free_ok X Gm (c.fact 39 (f := .free "repr") rfl)
    · exact He.free_ok X Gm (c.fact 40 (f := .free "set") rfl)
    · exact He.free_ok X Gm (c.fact 41 (f := .free "sorted") rfl)
    · exact He.free_ok X Gm (c.fact 42 (f := .free "sum") rfl)
    · exact He.free_ok X Gm (c.fact 43 (f := .free "tuple") rfl)
  · intro x v hx
    refine con_cases hx ?_
    simp only [G, List.forall_mem_cons, List.not_mem_nil, false_implies, implies_true, and_true]
    refine ⟨?_, ?_⟩
    · exact con_str (He.str_ok X Gm (c.fact 44 (f := .str "MIRRORED" "mirrored") rfl))
    · exact con_str (He.str_ok X Gm (c.fact 45 (f := .str "TURNED" "turned") rfl))
end
end K32
namespace K32
open PySem L2 Ev Cyc
theorem sum_filt {n : Nat} {p : Nat → Bool} {F : Nat → Int} (h : ∀ i, i < n → p i = false → F i = 0) : (((List.range n).filter p).map F).sum = Cyc.S n F := by
  unfold Cyc.S
  have : ∀ l : List Nat, (∀ i ∈ l, i < n) → ((l.filter p).map F).sum = (l.map F).sum := by
    intro l
    induction l with
    | nil => intro _; rfl
    | cons i l ih =>
      intro hl
      have := ih fun j hj => hl j (List.mem_cons_of_mem _ hj)
      cases hp : p i with
      | true => simp [hp, this]
      | false => simp [hp, this, h i (hl i List.mem_cons_self) hp]
  exact this _ fun i hi => List.mem_range.mp hi
theorem m0 {k n : Nat} {f : Nat → Int} {st : Store} (hn : n ≤ 16777215) : evF T (k + 1) 0 [vt n f] st = .ok (.tup (((List.range n).filter fun i => f i != 0).map fun (i : Nat) => .int i)) st := by
  show endF (evSs (evF T k) f0.body [some (vt n f), none, none] st) = _
  simp only [f0, evSs, evS, evE, evP, mkP]
  rw [evL_filtB (l := List.range n) (h := fun (i : Nat) => .tup [.int i, .int (f i)]) (B := fun (i : Nat) => [some (vt n f), some (.int i), some (.int (f i))]) (p := fun i => f i != 0) (g := fun (i : Nat) => .int i) ?hi (by simpa using hn) (fun _ _ => rfl) ?hc (fun _ _ _ => rfl)]
  · rfl
  case hi =>
    rw [evI_enm (xs := vl n f) rfl, enmL_vl]
  case hc =>
    intro i _
    rfl
theorem mod_nat {n i k : Nat} (hi : i < n) : ((k : Int) - (i : Int)) % (n : Int) = (((k + (n - i)) % n : Nat) : Int) := by
  have e : ((k : Int) - i) = ((k + (n - i) : Nat) : Int) - (n : Int) * 1 := by omega
  rw [e, Int.sub_mul_emod_self_left]
  rfl
theorem mul_ok {i j : Int} (h : i.natAbs < 2 ^ 64) : mulOk i j = true := by
  unfold mulOk
  rw [decide_eq_true (show i.natAbs < 18446744073709551616 from h)]
  rfl
theorem m1 {k n : Nat} {f g : Nat → Int} {st : Store} (hn : n ≤ 16777215) (h0 : 0 < n) (bf : ∀ i, i < n → (f i).natAbs < 2 ^ 64) : evF T (k + 2) 1 [vt n f, vt n g] st = .ok (vt n (con n f g)) st := by
  show endF (evSs (evF T (k + 1)) f1.body [some (vt n f), some (vt n g), none, none, none, none] st) = _
  simp only [f1, evSs, evS, evE, evP, mkP, evEs, evL_val, bind_k, thn_k, getS, okO_k, items_tup, evCbl, vl_len, List.append_nil, m0 hn, noX_k, List.length_cons, List.length_nil, if_size (show 0 + 1 + 1 ≤ 1000 by decide), setAll, optN_k, setS, nx_bind]
  rw [evL_map (l := List.range n) (h := fun (i : Nat) => .int i) (g := fun (i : Nat) => .int (con n f g i)) ?hi (by simpa using hn) ?he]
  · rfl
  case hi => exact evI_rng rfl hn
  case he =>
    intro late hl
    have hl := List.mem_range.mp hl
    simp only [evE, evP, mkP]
    rw [evL_map (l := (List.range n).filter fun i => f i != 0) (h := fun (i : Nat) => .int i) (g := fun (i : Nat) => .int (f i * g ((late + (n - i)) % n))) ?hi ?hl ?he]
    case hi => exact evI_tup rfl
    case hl => exact Nat.le_trans (List.length_filter_le _ _) (by simpa using hn)
    case he =>
      intro i hi
      have hi : i < n := List.mem_range.mp (List.mem_filter.mp hi).1
      simp only [evE, evP, mkP, getS, okO_k, wipeS, unS, setS, bind_k, evBin]
      rw [sub_vt (by omega) (by omega)]
      simp only [bind_k]
      rw [if_pos (by omega), mod_nat hi]
      simp only [bind_k]
      rw [sub_vt (by omega) (by have := Nat.mod_lt (late + (n - i)) h0; omega)]
      simp only [bind_k, Int.toNat_natCast]
      rw [if_pos (mul_ok (bf i hi))]
    · simp only [bind_k, evCbl, intsOf_map]
      rw [sum_filt fun i _ hp => ?_]
      · rfl
      · have : f i = 0 := by simpa using hp
        rw [this, Int.zero_mul]
/-- v[:0:-1] behind v[0] -/
theorem pick_mir {n : Nat} {f : Nat → Int} (h0 : 0 < n) : PV.int (f 0) :: pickT (vl n f) none (some 0) (-1) = vl n (mir n f) := by
  have ea : Builtin.Slice.sliceAdjust none (some 0) (-1) ((vl n f).length : Nat) = ((n : Int) - 1, 0) := by
    rw [vl_len]
    simp only [Builtin.Slice.sliceAdjust]
    have : min (0 : Int) ((n : Int) - 1) = 0 := by omega
    simp [this]
  have ep : Builtin.Slice.slicePlaces ((n : Int) - 1) 0 (-1) = n - 1 := by
    unfold Builtin.Slice.slicePlaces
    rw [if_neg (by decide)]
    by_cases h : (n : Int) - 1 > 0
    · rw [if_pos h]
      simp
    · rw [if_neg h]
      simp
      omega
  unfold pickT
  rw [ea]
  simp only [ep]
  refine List.ext_getElem? fun i => ?_
  cases i with
  | zero =>
    simp only [List.getElem?_cons_zero]
    rw [← atP_get, vl_at _ h0]
    simp [mir]
  | succ i =>
    simp only [List.getElem?_cons_succ]
    have hm : ∀ m ∈ List.range (n - 1), (vl n f)[(((n : Int) - 1) + (m : Int) * -1).toNat]? = some (PV.int (f (n - 1 - m))) := by
      intro m hm
      have hm := List.mem_range.mp hm
      have e : (((n : Int) - 1) + (m : Int) * -1).toNat = n - 1 - m := by omega
      rw [e, ← atP_get, vl_at _ (by omega)]
    have e2 : ((List.range (n - 1)).filterMap fun (m : Nat) => (vl n f)[(((n : Int) - 1) + (m : Int) * -1).toNat]?) = (List.range (n - 1)).map fun m => PV.int (f (n - 1 - m)) := by
      have gen : ∀ (l : List Nat) (F : Nat → Option PV) (G : Nat → PV), (∀ m ∈ l, F m = some (G m)) → l.filterMap F = l.map G := by
        intro l F G
        induction l with
        | nil => intro _; rfl
        | cons a l ih => intro h; rw [List.filterMap_cons, h a List.mem_cons_self]; simp [ih fun m hm => h m (List.mem_cons_of_mem _ hm)]
      exact gen _ _ _ hm
    rw [e2, ← atP_get (vl n (mir n f))]
    by_cases hi : i + 1 < n
    · rw [vl_at _ hi]
      simp only [List.getElem?_map, List.getElem?_range (by omega : i < n - 1), Option.map_some]
      unfold mir
      rw [Nat.mod_eq_of_lt (by omega)]
      congr 3
      omega
    · rw [List.getElem?_eq_none (by simp; omega), atP_get, List.getElem?_eq_none (by rw [vl_len]; omega)]
section
variable {k n : Nat} {f g : Nat → Int} {st : Store}
theorem m3 (hn : n ≤ 900) (h0 : 0 < n) : evF T (k + 1) 3 [vt n f] st = .ok (vt n (mir n f)) st := by
  show endF (evSs (evF T k) f3.body [some (vt n f)] st) = _
  simp only [f3, evSs, evS, evE, evT, evP, mkP, evEs, evO, evL_val, evL_disp, bind_k, thn_k, getS, okO_k, items_tup, evCbl, vl_len, List.append_nil, List.nil_append, List.cons_append, noX_k, List.length_cons, List.length_nil, setAll, optN_k, setS, nx_bind, rt_bind, endF_rt, endF_nx, wipeS, unS, evBin, evBlt, evCmp, boolR_bl]
  rw [sub_vt (by decide) (by omega)]
  simp only [evSs, evS, evE, evT, evP, mkP, evEs, evO, evL_val, evL_disp, bind_k, thn_k, getS, okO_k, items_tup, evCbl, vl_len, List.append_nil, List.nil_append, List.cons_append, noX_k, List.length_cons, List.length_nil, setAll, optN_k, setS, nx_bind, rt_bind, endF_rt, endF_nx, wipeS, unS, evBin, evBlt, evCmp, boolR_bl, evStp]
  rw [if_neg (by decide)]
  have ep : Builtin.Slice.slicePlaces (Builtin.Slice.sliceAdjust none (some 0) (-1) n).1 (Builtin.Slice.sliceAdjust none (some 0) (-1) n).2 (-1) ≤ sizeLine := by
    refine small_le ?_
    have ea : Builtin.Slice.sliceAdjust none (some 0) (-1) n = ((n : Int) - 1, 0) := by
      simp only [Builtin.Slice.sliceAdjust]
      have : min (0 : Int) ((n : Int) - 1) = 0 := by omega
      simp [this]
    rw [ea]
    unfold Builtin.Slice.slicePlaces
    rw [if_neg (by decide)]
    by_cases h : (n : Int) - 1 > 0
    · rw [if_pos h]; simp; omega
    · rw [if_neg h]; simp
  rw [if_pos ep]
  simp only [evSs, evS, evE, evT, evP, mkP, evEs, evO, evL_val, evL_disp, bind_k, thn_k, getS, okO_k, items_tup, evCbl, vl_len, List.append_nil, List.nil_append, List.cons_append, noX_k, List.length_cons, List.length_nil, setAll, optN_k, setS, nx_bind, rt_bind, endF_rt, endF_nx, wipeS, unS, evBin, evBlt, evCmp, boolR_bl]
  have e : (0 : Int).toNat = 0 := rfl
  have hl := congrArg List.length (pick_mir (f := f) h0)
  rw [vl_len, List.length_cons] at hl
  rw [e, if_pos (small_le (by omega)), pick_mir h0]
  rfl
theorem m4 (hn : n ≤ 900) (h0 : 0 < n) (bf : ∀ i, i < n → (f i).natAbs < 2 ^ 64) : evF T (k + 3) 4 [vt n f, vt n g] st = .ok (vt n (con n f (mir n g))) st := by
  show endF (evSs (evF T (k + 2)) f4.body [some (vt n f), some (vt n g)] st) = _
  simp only [f4, evSs, evS, evE, evT, evP, mkP, evEs, evO, evL_val, evL_disp, bind_k, thn_k, getS, okO_k, items_tup, evCbl, vl_len, List.append_nil, List.nil_append, List.cons_append, noX_k, List.length_cons, List.length_nil, setAll, optN_k, setS, nx_bind, rt_bind, endF_rt, endF_nx, wipeS, unS, evBin, evBlt, evCmp, boolR_bl, m3 (k := k + 1) hn h0, m1 (by omega : n ≤ 16777215) h0 bf]
theorem cro_eq (n : Nat) (f g : Nat → Int) : cro n f g = con n f (mir n g) := funext fun k => cro_con f g k
theorem m4' (hn : n ≤ 900) (h0 : 0 < n) (bf : ∀ i, i < n → (f i).natAbs < 2 ^ 64) : evF T (k + 3) 4 [vt n f, vt n g] st = .ok (vt n (cro n f g)) st := by
  rw [m4 hn h0 bf, cro_eq]
theorem m5 (hn : n ≤ 900) (h0 : 0 < n) (bf : ∀ i, i < n → (f i).natAbs < 2 ^ 64) : evF T (k + 4) 5 [vt n f] st = .ok (vt n (cro n f f)) st := by
  show endF (evSs (evF T (k + 3)) f5.body [some (vt n f)] st) = _
  simp only [f5, evSs, evS, evE, evT, evP, mkP, evEs, evO, evL_val, evL_disp, bind_k, thn_k, getS, okO_k, items_tup, evCbl, vl_len, List.append_nil, List.nil_append, List.cons_append, noX_k, List.length_cons, List.length_nil, setAll, optN_k, setS, nx_bind, rt_bind, endF_rt, endF_nx, wipeS, unS, evBin, evBlt, evCmp, boolR_bl, m4' hn h0 bf]
theorem m9 {i : Int} : evF T (k + 1) 9 [.int i] st = .ok (.bl true) st := rfl
theorem bools_true {α : Type} : ∀ (l : List α), boolsOf (l.map fun _ => PV.bl true) = some (l.map fun _ => true)
  | [] => rfl
  | a :: l => by simp only [List.map_cons, boolsOf, bools_true l]
theorem m10 (hn : n ≤ 900) (h0 : 0 < n) : evF T (k + 2) 10 [vt n f] st = .ok (.bl true) st := by
  show endF (evSs (evF T (k + 1)) f10.body [some (vt n f), none] st) = _
  simp only [f10, evSs, evS, evE, evT, evP, mkP, evEs, evO, evL_val, evL_disp, bind_k, thn_k, getS, okO_k, items_tup, evCbl, vl_len, List.append_nil, List.nil_append, List.cons_append, noX_k, List.length_cons, List.length_nil, setAll, optN_k, setS, nx_bind, rt_bind, endF_rt, endF_nx, wipeS, unS, evBin, evBlt, evCmp, boolR_bl, tyName, isiT, okB, truth]
  rw [evL_map (l := List.range n) (h := fun (i : Nat) => .int (f i)) (g := fun (i : Nat) => .bl true) (evI_tup rfl) (by simp; omega) ?he]
  · simp only [evSs, evS, evE, evT, evP, mkP, evEs, evO, evL_val, evL_disp, bind_k, thn_k, getS, okO_k, items_tup, evCbl, vl_len, List.append_nil, List.nil_append, List.cons_append, noX_k, List.length_cons, List.length_nil, setAll, optN_k, setS, nx_bind, rt_bind, endF_rt, endF_nx, wipeS, unS, evBin, evBlt, evCmp, boolR_bl]
    have : decide ((0 : Int) < (n : Int)) = true := by simpa using h0
    simp only [this, isLst, bools_true, evSs, evS, evE, evT, evP, mkP, evEs, evO, evL_val, evL_disp, bind_k, thn_k, getS, okO_k, items_tup, evCbl, vl_len, List.append_nil, List.nil_append, List.cons_append, noX_k, List.length_cons, List.length_nil, setAll, optN_k, setS, nx_bind, rt_bind, endF_rt, endF_nx, wipeS, unS, evBin, evBlt, evCmp, boolR_bl]
    simp
  case he => intro i _; rfl
theorem m11 (hn : n ≤ 900) (h0 : 0 < n) : evF T (k + 3) 11 [vt n f, vt n g] st = .ok (.bl true) st := by
  show endF (evSs (evF T (k + 2)) f11.body [some (vt n f), some (vt n g)] st) = _
  simp only [f11, evSs, evS, evE, evT, evP, mkP, evEs, evO, evL_val, evL_disp, bind_k, thn_k, getS, okO_k, items_tup, evCbl, vl_len, List.append_nil, List.nil_append, List.cons_append, noX_k, List.length_cons, List.length_nil, setAll, optN_k, setS, nx_bind, rt_bind, endF_rt, endF_nx, wipeS, unS, evBin, evBlt, evCmp, boolR_bl, m10 hn h0, truth, eqD, okB, beq_self_eq_true]
theorem m12 {w a : PV} : evF T (k + 1) 12 [.bl true, w, a] st = .ok .non st := rfl
theorem m13 {w : PV} (hn : n ≤ 900) (h0 : 0 < n) : evF T (k + 4) 13 [vt n f, vt n g, w] st = .ok .non st := by
  show endF (evSs (evF T (k + 3)) f13.body [some (vt n f), some (vt n g), some w] st) = _
  simp only [f13, evSs, evS, evE, evT, evP, mkP, evEs, evO, evL_val, evL_disp, bind_k, thn_k, getS, okO_k, items_tup, evCbl, vl_len, List.append_nil, List.nil_append, List.cons_append, noX_k, List.length_cons, List.length_nil, setAll, optN_k, setS, nx_bind, rt_bind, endF_rt, endF_nx, wipeS, unS, evBin, evBlt, evCmp, boolR_bl, m11 hn h0, m12]
theorem m17 (hn : n ≤ 900) (h0 : 0 < n) (bf : ∀ i, i < n → (f i).natAbs < 2 ^ 64) : evF T (k + 5) 17 [vt n f] st = .ok (vt n (cro n f f)) st := by
  show endF (evSs (evF T (k + 4)) f17.body [some (vt n f)] st) = _
  simp only [f17, evSs, evS, evE, evT, evP, mkP, evEs, evO, evL_val, evL_disp, bind_k, thn_k, getS, okO_k, items_tup, evCbl, vl_len, List.append_nil, List.nil_append, List.cons_append, noX_k, List.length_cons, List.length_nil, setAll, optN_k, setS, nx_bind, rt_bind, endF_rt, endF_nx, wipeS, unS, evBin, evBlt, evCmp, boolR_bl, m5 hn h0 bf]
theorem m18 (hn : n ≤ 900) (h0 : 0 < n) (bf : ∀ i, i < n → (f i).natAbs < 2 ^ 64) (bg : ∀ i, i < n → (g i).natAbs < 2 ^ 64) : evF T (k + 5) 18 [vt n f, vt n g] st = .ok (.bl ((List.range n).all fun i => cro n f f i == cro n g g i)) st := by
  show endF (evSs (evF T (k + 4)) f18.body [some (vt n f), some (vt n g)] st) = _
  simp only [f18, evSs, evS, evE, evT, evP, mkP, evEs, evO, evL_val, evL_disp, bind_k, thn_k, getS, okO_k, items_tup, evCbl, vl_len, List.append_nil, List.nil_append, List.cons_append, noX_k, List.length_cons, List.length_nil, setAll, optN_k, setS, nx_bind, rt_bind, endF_rt, endF_nx, wipeS, unS, evBin, evBlt, evCmp, boolR_bl, m13 hn h0, m5 hn h0 bf, m5 hn h0 bg, eq_vt, okB]
theorem m21 (hn : n ≤ 900) (h0 : 0 < n) : evF T (k + 1) 21 [vt n f] st = .ok (vt n (mir n f)) st := by
  show endF (evSs (evF T k) f21.body [some (vt n f), none, none] st) = _
  simp only [f21, evSs, evS, evE, evT, evP, mkP, evEs, evO, evL_val, evL_disp, bind_k, thn_k, getS, okO_k, items_tup, evCbl, vl_len, List.append_nil, List.nil_append, List.cons_append, noX_k, List.length_cons, List.length_nil, setAll, optN_k, setS, nx_bind, rt_bind, endF_rt, endF_nx, wipeS, unS, evBin, evBlt, evCmp, boolR_bl]
  rw [evL_map (l := List.range n) (h := fun (i : Nat) => .int i) (g := fun (i : Nat) => .int (mir n f i)) (evI_rng rfl (by omega)) (by simp; omega) ?he]
  · rfl
  case he =>
    intro i hi
    have hi := List.mem_range.mp hi
    simp only [evSs, evS, evE, evT, evP, mkP, evEs, evO, evL_val, evL_disp, bind_k, thn_k, getS, okO_k, items_tup, evCbl, vl_len, List.append_nil, List.nil_append, List.cons_append, noX_k, List.length_cons, List.length_nil, setAll, optN_k, setS, nx_bind, rt_bind, endF_rt, endF_nx, wipeS, unS, evBin, evBlt, evCmp, boolR_bl]
    rw [if_pos (by omega), mod_nat hi]
    simp only [evSs, evS, evE, evT, evP, mkP, evEs, evO, evL_val, evL_disp, bind_k, thn_k, getS, okO_k, items_tup, evCbl, vl_len, List.append_nil, List.nil_append, List.cons_append, noX_k, List.length_cons, List.length_nil, setAll, optN_k, setS, nx_bind, rt_bind, endF_rt, endF_nx, wipeS, unS, evBin, evBlt, evCmp, boolR_bl]
    rw [sub_vt (by omega) (by have := Nat.mod_lt (n + (n - i)) h0; omega)]
    unfold mir
    rw [Int.toNat_natCast, Nat.add_mod_left]
theorem m22 {t : Nat} (ht : t < n) (hn : n ≤ 900) (h0 : 0 < n) : evF T (k + 1) 22 [vt n f, .int t] st = .ok (vt n fun i => f ((i + (n - t)) % n)) st := by
  show endF (evSs (evF T k) f22.body [some (vt n f), some (.int t), none, none] st) = _
  simp only [f22, evSs, evS, evE, evT, evP, mkP, evEs, evO, evL_val, evL_disp, bind_k, thn_k, getS, okO_k, items_tup, evCbl, vl_len, List.append_nil, List.nil_append, List.cons_append, noX_k, List.length_cons, List.length_nil, setAll, optN_k, setS, nx_bind, rt_bind, endF_rt, endF_nx, wipeS, unS, evBin, evBlt, evCmp, boolR_bl]
  rw [evL_map (l := List.range n) (h := fun (i : Nat) => .int i) (g := fun (i : Nat) => .int (f ((i + (n - t)) % n))) (evI_rng rfl (by omega)) (by simp; omega) ?he]
  · rfl
  case he =>
    intro i hi
    have hi := List.mem_range.mp hi
    simp only [evSs, evS, evE, evT, evP, mkP, evEs, evO, evL_val, evL_disp, bind_k, thn_k, getS, okO_k, items_tup, evCbl, vl_len, List.append_nil, List.nil_append, List.cons_append, noX_k, List.length_cons, List.length_nil, setAll, optN_k, setS, nx_bind, rt_bind, endF_rt, endF_nx, wipeS, unS, evBin, evBlt, evCmp, boolR_bl]
    rw [if_pos (by omega), mod_nat ht]
    simp only [evSs, evS, evE, evT, evP, mkP, evEs, evO, evL_val, evL_disp, bind_k, thn_k, getS, okO_k, items_tup, evCbl, vl_len, List.append_nil, List.nil_append, List.cons_append, noX_k, List.length_cons, List.length_nil, setAll, optN_k, setS, nx_bind, rt_bind, endF_rt, endF_nx, wipeS, unS, evBin, evBlt, evCmp, boolR_bl]
    rw [sub_vt (by omega) (by have := Nat.mod_lt (i + (n - t)) h0; omega), Int.toNat_natCast]
theorem add_nat {n i j : Nat} : ((i : Int) + (j : Int)) % (n : Int) = (((i + j) % n : Nat) : Int) := by
  rw [← Int.natCast_add]
  rfl
end
end K32

namespace K32
open PySem L2 Ev Cyc
/-- the feed at o: the cells at s, three counters -/
structure Fd (o : Nat) (st : Store) (cnt : Int) : Prop where
  ex : ∃ (s : Nat) (cells : List Int) (a b : Int), st.get o = some (.lst [.obj s, .int a, .int b, .int cnt]) ∧ st.get s = some (.lst (cells.map PV.int)) ∧ s ≠ o ∧ s < st.n ∧ 0 ≤ a ∧ 0 ≤ b
  lt : o < st.n
  pos : 0 ≤ cnt
/-- all but o stays -/
structure Keep (o : Nat) (st st' : Store) : Prop where
  le : st.n ≤ st'.n
  get : ∀ m, m < st.n → m ≠ o → st'.get m = st.get m
theorem Keep.refl (o : Nat) (st : Store) : Keep o st st := ⟨Nat.le_refl _, fun _ _ _ => rfl⟩
theorem Keep.trans {o : Nat} {a b c : Store} (h : Keep o a b) (g : Keep o b c) : Keep o a c :=
  ⟨Nat.le_trans h.le g.le, fun m hm hn => (g.get m (Nat.lt_of_lt_of_le hm h.le) hn).trans (h.get m hm hn)⟩
theorem Keep.put {o : Nat} {st : Store} {x : MO} : Keep o st (st.put o x) := ⟨Nat.le_refl _, fun m _ hn => Store.get_put_ne (Ne.symm hn)⟩
theorem Keep.push {o : Nat} {st : Store} {x : MO} : Keep o st (st.push x) := ⟨Nat.le_succ _, fun m hm _ => Store.get_push_ne (Nat.ne_of_gt hm)⟩
theorem sub_obj {st : Store} {o : Nat} {xs : List PV} {i : Nat} {m : Int} {x : PV} (h : st.get o = some (.lst xs)) (hi : ixN xs.length m = some i) (hx : atP xs i = some x) : evSub (.obj o) (.int m) st = .ok x st := by
  simp only [evSub, items, h, hi, hx, okO_k]
theorem set_obj {st : Store} {o : Nat} {xs : List PV} {i : Nat} {m : Int} {v : PV} (h : st.get o = some (.lst xs)) (hi : ixN xs.length m = some i) : evSet (.obj o) (.int m) v st = .ok () (st.put o (.lst (putP v xs i))) := by
  simp only [evSet, h, hi]
theorem items_obj {st : Store} {o : Nat} {xs : List PV} (h : st.get o = some (.lst xs)) : items (.obj o) st = some (.obj o, xs) := by simp only [items, h]
theorem toD_cells {st : Store} {k s : Nat} {cells : List Int} (h : st.get s = some (.lst (cells.map PV.int))) : toD st (k + 1) (.obj s) = some (.list (cells.map PyData.int)) := by
  simp only [toD, h]
  rw [mapO_map (d := fun i => PyData.int i) _ fun a _ => by cases k <;> rfl]
theorem eq_nil {st : Store} {s t : Nat} {cells : List Int} (h : st.get s = some (.lst (cells.map PV.int))) (h2 : st.get t = some (.lst [])) : eqD (.obj s) (.obj t) st = some (cells.isEmpty) := by
  have e2 : toD st 60 (.obj t) = some (.list []) := by simp only [toD, h2, mapO]
  simp only [eqD, toD_cells h, e2, PyData.eqv]
  cases cells <;> rfl
theorem mod_in {i : Int} {b : Int} (hb : 0 < b) : 0 ≤ i % b ∧ i % b < b := ⟨Int.emod_nonneg _ (by omega), Int.emod_lt_of_pos _ hb⟩
theorem mul_ok2 {i j : Int} (h : j.natAbs < 2 ^ 64) : mulOk i j = true := by
  unfold mulOk
  rw [decide_eq_true (show j.natAbs < 18446744073709551616 from h)]
  simp
section
variable {k : Nat} {st : Store}
theorem m20 {o : Nat} {cnt b : Int} (F : Fd o st cnt) (hc : cnt ≤ 1000000) (hb : 0 < b) (hb2 : b ≤ 1000) :
    ∃ v st', evF T (k + 1) 20 [.obj o, .int b] st = .ok (.int v) st' ∧ 0 ≤ v ∧ v < b ∧ Fd o st' (cnt + 1) ∧ Keep o st st' := by
  obtain ⟨⟨s, cells, a, r, h1, h2, hso, hs, ha, hr⟩, hlt, hp⟩ := F
  have e0 : evF T (k + 1) 20 [.obj o, .int b] st = endF (evSs (evF T k) f20.body [some (.obj o), some (.int b), none, none, none, none] st) := rfl
  rw [e0]
  simp only [f20, evSs, evS, evE, evT, evP, mkP, evEs, evO, evL_val, evL_disp, bind_k, thn_k, getS, okO_k, items_tup, evCbl, vl_len, List.append_nil, List.nil_append, List.cons_append, noX_k, List.length_cons, List.length_nil, setAll, optN_k, setS, nx_bind, rt_bind, endF_rt, endF_nx, wipeS, unS, evBin, evBlt, evCmp, boolR_bl]
  rw [sub_obj h1 (i := 3) rfl rfl]
  simp only [evSs, evS, evE, evT, evP, mkP, evEs, evO, evL_val, evL_disp, bind_k, thn_k, getS, okO_k, items_tup, evCbl, vl_len, List.append_nil, List.nil_append, List.cons_append, noX_k, List.length_cons, List.length_nil, setAll, optN_k, setS, nx_bind, rt_bind, endF_rt, endF_nx, wipeS, unS, evBin, evBlt, evCmp, boolR_bl]
  rw [set_obj h1 (i := 3) rfl]
  simp only [evSs, evS, evE, evT, evP, mkP, evEs, evO, evL_val, evL_disp, bind_k, thn_k, getS, okO_k, items_tup, evCbl, vl_len, List.append_nil, List.nil_append, List.cons_append, noX_k, List.length_cons, List.length_nil, setAll, optN_k, setS, nx_bind, rt_bind, endF_rt, endF_nx, wipeS, unS, evBin, evBlt, evCmp, boolR_bl, putP]
  -- from here the counter is one more
  generalize hS : st.put o (MO.lst [PV.obj s, PV.int a, PV.int r, PV.int (cnt + 1)]) = st1
  have k1 : Keep o st st1 := by rw [← hS]; exact Keep.put
  have g1 : st1.get o = some (.lst [.obj s, .int a, .int r, .int (cnt + 1)]) := by rw [← hS]; exact Store.get_put_same
  have g2 : st1.get s = some (.lst (cells.map PV.int)) := by rw [k1.get s hs hso]; exact h2
  have hlt1 : o < st1.n := Nat.lt_of_lt_of_le hlt k1.le
  have hs1 : s < st1.n := Nat.lt_of_lt_of_le hs k1.le
  rw [sub_obj g1 (i := 0) rfl rfl]
  simp only [evSs, evS, evE, evT, evP, mkP, evEs, evO, evL_val, evL_disp, bind_k, thn_k, getS, okO_k, items_tup, evCbl, vl_len, List.append_nil, List.nil_append, List.cons_append, noX_k, List.length_cons, List.length_nil, setAll, optN_k, setS, nx_bind, rt_bind, endF_rt, endF_nx, wipeS, unS, evBin, evBlt, evCmp, boolR_bl, allocL]
  rw [if_size (by decide)]
  simp only [evSs, evS, evE, evT, evP, mkP, evEs, evO, evL_val, evL_disp, bind_k, thn_k, getS, okO_k, items_tup, evCbl, vl_len, List.append_nil, List.nil_append, List.cons_append, noX_k, List.length_cons, List.length_nil, setAll, optN_k, setS, nx_bind, rt_bind, endF_rt, endF_nx, wipeS, unS, evBin, evBlt, evCmp, boolR_bl]
  generalize hS2 : st1.push (MO.lst []) = st2
  have k2 : Keep o st1 st2 := by rw [← hS2]; exact Keep.push
  have p1 : st2.get o = some (.lst [.obj s, .int a, .int r, .int (cnt + 1)]) := by
    rw [← hS2, Store.get_push_ne (by omega)]
    exact g1
  have p2 : st2.get s = some (.lst (cells.map PV.int)) := by rw [k2.get s hs1 hso]; exact g2
  have p3 : st2.get st1.n = some (.lst []) := by rw [← hS2]; exact Store.get_push_same
  have hlt2 : o < st2.n := Nat.lt_of_lt_of_le hlt1 k2.le
  have hs2 : s < st2.n := Nat.lt_of_lt_of_le hs1 k2.le
  have kk : Keep o st st2 := k1.trans k2
  -- an end that leaves the store as it is
  have done0 : Fd o st2 (cnt + 1) := ⟨⟨s, cells, a, r, p1, p2, hso, hs2, ha, hr⟩, hlt2, by omega⟩
  rw [eq_nil p2 p3]
  simp only [okB, evSs, evS, evE, evT, evP, mkP, evEs, evO, evL_val, evL_disp, bind_k, thn_k, getS, okO_k, items_tup, evCbl, vl_len, List.append_nil, List.nil_append, List.cons_append, noX_k, List.length_cons, List.length_nil, setAll, optN_k, setS, nx_bind, rt_bind, endF_rt, endF_nx, wipeS, unS, evBin, evBlt, evCmp, boolR_bl]
  cases hcell : cells.isEmpty with
  | true =>
    simp only [evSs, evS, evE, evT, evP, mkP, evEs, evO, evL_val, evL_disp, bind_k, thn_k, getS, okO_k, items_tup, evCbl, vl_len, List.append_nil, List.nil_append, List.cons_append, noX_k, List.length_cons, List.length_nil, setAll, optN_k, setS, nx_bind, rt_bind, endF_rt, endF_nx, wipeS, unS, evBin, evBlt, evCmp, boolR_bl]
    rw [sub_obj p1 (i := 3) rfl rfl]
    simp only [evSs, evS, evE, evT, evP, mkP, evEs, evO, evL_val, evL_disp, bind_k, thn_k, getS, okO_k, items_tup, evCbl, vl_len, List.append_nil, List.nil_append, List.cons_append, noX_k, List.length_cons, List.length_nil, setAll, optN_k, setS, nx_bind, rt_bind, endF_rt, endF_nx, wipeS, unS, evBin, evBlt, evCmp, boolR_bl]
    rw [if_pos (mul_ok (by decide))]
    simp only [evSs, evS, evE, evT, evP, mkP, evEs, evO, evL_val, evL_disp, bind_k, thn_k, getS, okO_k, items_tup, evCbl, vl_len, List.append_nil, List.nil_append, List.cons_append, noX_k, List.length_cons, List.length_nil, setAll, optN_k, setS, nx_bind, rt_bind, endF_rt, endF_nx, wipeS, unS, evBin, evBlt, evCmp, boolR_bl]
    rw [if_pos hb]
    obtain ⟨v0, v1⟩ := mod_in (i := 9 * (cnt + 1) + 2) hb
    exact ⟨_, _, rfl, v0, v1, done0, kk⟩
  | false =>
    simp only [evSs, evS, evE, evT, evP, mkP, evEs, evO, evL_val, evL_disp, bind_k, thn_k, getS, okO_k, items_tup, evCbl, vl_len, List.append_nil, List.nil_append, List.cons_append, noX_k, List.length_cons, List.length_nil, setAll, optN_k, setS, nx_bind, rt_bind, endF_rt, endF_nx, wipeS, unS, evBin, evBlt, evCmp, boolR_bl]
    rw [sub_obj p1 (i := 2) rfl rfl]
    simp only [evSs, evS, evE, evT, evP, mkP, evEs, evO, evL_val, evL_disp, bind_k, thn_k, getS, okO_k, items_tup, evCbl, vl_len, List.append_nil, List.nil_append, List.cons_append, noX_k, List.length_cons, List.length_nil, setAll, optN_k, setS, nx_bind, rt_bind, endF_rt, endF_nx, wipeS, unS, evBin, evBlt, evCmp, boolR_bl]
    by_cases h0 : (0 : Int) < r
    · rw [decide_eq_true h0]
      simp only [evSs, evS, evE, evT, evP, mkP, evEs, evO, evL_val, evL_disp, bind_k, thn_k, getS, okO_k, items_tup, evCbl, vl_len, List.append_nil, List.nil_append, List.cons_append, noX_k, List.length_cons, List.length_nil, setAll, optN_k, setS, nx_bind, rt_bind, endF_rt, endF_nx, wipeS, unS, evBin, evBlt, evCmp, boolR_bl]
      rw [sub_obj p1 (i := 2) rfl rfl]
      simp only [evSs, evS, evE, evT, evP, mkP, evEs, evO, evL_val, evL_disp, bind_k, thn_k, getS, okO_k, items_tup, evCbl, vl_len, List.append_nil, List.nil_append, List.cons_append, noX_k, List.length_cons, List.length_nil, setAll, optN_k, setS, nx_bind, rt_bind, endF_rt, endF_nx, wipeS, unS, evBin, evBlt, evCmp, boolR_bl]
      rw [if_pos hb]
      simp only [evSs, evS, evE, evT, evP, mkP, evEs, evO, evL_val, evL_disp, bind_k, thn_k, getS, okO_k, items_tup, evCbl, vl_len, List.append_nil, List.nil_append, List.cons_append, noX_k, List.length_cons, List.length_nil, setAll, optN_k, setS, nx_bind, rt_bind, endF_rt, endF_nx, wipeS, unS, evBin, evBlt, evCmp, boolR_bl]
      rw [sub_obj p1 (i := 2) rfl rfl]
      simp only [evSs, evS, evE, evT, evP, mkP, evEs, evO, evL_val, evL_disp, bind_k, thn_k, getS, okO_k, items_tup, evCbl, vl_len, List.append_nil, List.nil_append, List.cons_append, noX_k, List.length_cons, List.length_nil, setAll, optN_k, setS, nx_bind, rt_bind, endF_rt, endF_nx, wipeS, unS, evBin, evBlt, evCmp, boolR_bl]
      rw [if_pos hb, if_pos (by omega)]
      simp only [evSs, evS, evE, evT, evP, mkP, evEs, evO, evL_val, evL_disp, bind_k, thn_k, getS, okO_k, items_tup, evCbl, vl_len, List.append_nil, List.nil_append, List.cons_append, noX_k, List.length_cons, List.length_nil, setAll, optN_k, setS, nx_bind, rt_bind, endF_rt, endF_nx, wipeS, unS, evBin, evBlt, evCmp, boolR_bl]
      rw [set_obj p1 (i := 2) rfl]
      simp only [evSs, evS, evE, evT, evP, mkP, evEs, evO, evL_val, evL_disp, bind_k, thn_k, getS, okO_k, items_tup, evCbl, vl_len, List.append_nil, List.nil_append, List.cons_append, noX_k, List.length_cons, List.length_nil, setAll, optN_k, setS, nx_bind, rt_bind, endF_rt, endF_nx, wipeS, unS, evBin, evBlt, evCmp, boolR_bl, putP]
      obtain ⟨v0, v1⟩ := mod_in (i := r) hb
      refine ⟨_, _, rfl, v0, v1, ⟨⟨s, cells, a, r / b, Store.get_put_same, ?_, hso, hs2, ha, Int.ediv_nonneg hr (by omega)⟩, hlt2, by omega⟩, kk.trans Keep.put⟩
      rw [Store.get_put_ne (Ne.symm hso)]
      exact p2
    · rw [decide_eq_false h0]
      simp only [evSs, evS, evE, evT, evP, mkP, evEs, evO, evL_val, evL_disp, bind_k, thn_k, getS, okO_k, items_tup, evCbl, vl_len, List.append_nil, List.nil_append, List.cons_append, noX_k, List.length_cons, List.length_nil, setAll, optN_k, setS, nx_bind, rt_bind, endF_rt, endF_nx, wipeS, unS, evBin, evBlt, evCmp, boolR_bl]
      rw [sub_obj p1 (i := 1) rfl rfl]
      simp only [evSs, evS, evE, evT, evP, mkP, evEs, evO, evL_val, evL_disp, bind_k, thn_k, getS, okO_k, items_tup, evCbl, vl_len, List.append_nil, List.nil_append, List.cons_append, noX_k, List.length_cons, List.length_nil, setAll, optN_k, setS, nx_bind, rt_bind, endF_rt, endF_nx, wipeS, unS, evBin, evBlt, evCmp, boolR_bl]
      rw [set_obj p1 (i := 1) rfl]
      simp only [evSs, evS, evE, evT, evP, mkP, evEs, evO, evL_val, evL_disp, bind_k, thn_k, getS, okO_k, items_tup, evCbl, vl_len, List.append_nil, List.nil_append, List.cons_append, noX_k, List.length_cons, List.length_nil, setAll, optN_k, setS, nx_bind, rt_bind, endF_rt, endF_nx, wipeS, unS, evBin, evBlt, evCmp, boolR_bl, putP]
      generalize hS3 : st2.put o (MO.lst [PV.obj s, PV.int (a + 1), PV.int r, PV.int (cnt + 1)]) = st3
      have k3 : Keep o st2 st3 := by rw [← hS3]; exact Keep.put
      have q1 : st3.get o = some (.lst [.obj s, .int (a + 1), .int r, .int (cnt + 1)]) := by rw [← hS3]; exact Store.get_put_same
      have q2 : st3.get s = some (.lst (cells.map PV.int)) := by rw [k3.get s hs2 hso]; exact p2
      have hlt3 : o < st3.n := Nat.lt_of_lt_of_le hlt2 k3.le
      have hs3 : s < st3.n := Nat.lt_of_lt_of_le hs2 k3.le
      have kk3 : Keep o st st3 := kk.trans k3
      have done3 : Fd o st3 (cnt + 1) := ⟨⟨s, cells, a + 1, r, q1, q2, hso, hs3, by omega, hr⟩, hlt3, by omega⟩
      have hlen : 0 < cells.length := by cases cells with
        | nil => cases hcell
        | cons x xs => simp
      rw [sub_obj q1 (i := 0) rfl rfl]
      simp only [evSs, evS, evE, evT, evP, mkP, evEs, evO, evL_val, evL_disp, bind_k, thn_k, getS, okO_k, items_tup, evCbl, vl_len, List.append_nil, List.nil_append, List.cons_append, noX_k, List.length_cons, List.length_nil, setAll, optN_k, setS, nx_bind, rt_bind, endF_rt, endF_nx, wipeS, unS, evBin, evBlt, evCmp, boolR_bl]
      rw [sub_obj q1 (i := 0) rfl rfl]
      simp only [evSs, evS, evE, evT, evP, mkP, evEs, evO, evL_val, evL_disp, bind_k, thn_k, getS, okO_k, items_tup, evCbl, vl_len, List.append_nil, List.nil_append, List.cons_append, noX_k, List.length_cons, List.length_nil, setAll, optN_k, setS, nx_bind, rt_bind, endF_rt, endF_nx, wipeS, unS, evBin, evBlt, evCmp, boolR_bl, items_obj q2, List.length_map]
      rw [if_pos (by omega)]
      simp only [evSs, evS, evE, evT, evP, mkP, evEs, evO, evL_val, evL_disp, bind_k, thn_k, getS, okO_k, items_tup, evCbl, vl_len, List.append_nil, List.nil_append, List.cons_append, noX_k, List.length_cons, List.length_nil, setAll, optN_k, setS, nx_bind, rt_bind, endF_rt, endF_nx, wipeS, unS, evBin, evBlt, evCmp, boolR_bl]
      have hsp : 0 ≤ a % (cells.length : Int) ∧ a % (cells.length : Int) < (cells.length : Int) := mod_in (by omega)
      obtain ⟨c, hcx⟩ : ∃ c, cells[(a % (cells.length : Int)).toNat]? = some c := ⟨cells[(a % (cells.length : Int)).toNat]'(by omega), List.getElem?_eq_getElem (by omega)⟩
      rw [sub_obj q2 (i := (a % (cells.length : Int)).toNat) (x := .int c) (by rw [List.length_map]; exact ixN_in hsp.1 hsp.2) (by rw [atP_get, List.getElem?_map, hcx]; rfl)]
      simp only [evSs, evS, evE, evT, evP, mkP, evEs, evO, evL_val, evL_disp, bind_k, thn_k, getS, okO_k, items_tup, evCbl, vl_len, List.append_nil, List.nil_append, List.cons_append, noX_k, List.length_cons, List.length_nil, setAll, optN_k, setS, nx_bind, rt_bind, endF_rt, endF_nx, wipeS, unS, evBin, evBlt, evCmp, boolR_bl]
      rw [if_pos (by decide)]
      simp only [evSs, evS, evE, evT, evP, mkP, evEs, evO, evL_val, evL_disp, bind_k, thn_k, getS, okO_k, items_tup, evCbl, vl_len, List.append_nil, List.nil_append, List.cons_append, noX_k, List.length_cons, List.length_nil, setAll, optN_k, setS, nx_bind, rt_bind, endF_rt, endF_nx, wipeS, unS, evBin, evBlt, evCmp, boolR_bl]
      -- the last way
      have last : ∃ v st', endF (SR.bind (SR.nx [some (PV.obj o), some (PV.int b), none, some (PV.int a), some (PV.int c), none] st3) fun e1 st1 => evSs (evF T k) (.cons (.asg 5 (.bin .mod (.blt .int (.cons (.bin .pow (.bin .add (.bin .add (.bin .mod (.blt .int (.cons (.slot 4) .nil)) (.lit (.int 1999999327))) (.bin .mul (.lit (.int 12113)) (.sub (.slot 0) (.lit (.int 3))))) (.lit (.int 109))) (.lit (.int 3))) .nil)) (.lit (.int 2147482507)))) (.cons (.asg 5 (.bin .mod (.blt .int (.cons (.bin .pow (.bin .add (.bin .add (.slot 5) (.bin .mul (.bin .mul (.lit (.int 1123)) (.sub (.slot 0) (.lit (.int 3)))) (.sub (.slot 0) (.lit (.int 3))))) (.lit (.int 83))) (.lit (.int 5))) .nil)) (.lit (.int 2147482501)))) (.cons (.ret (.bin .mod (.blt .int (.cons (.bin .fdiv (.slot 5) (.lit (.int 64))) .nil)) (.slot 1))) .nil))) e1 st1) = .ok (.int v) st' ∧ 0 ≤ v ∧ v < b ∧ Fd o st' (cnt + 1) ∧ Keep o st st' := by
        simp only [evSs, evS, evE, evT, evP, mkP, evEs, evO, evL_val, evL_disp, bind_k, thn_k, getS, okO_k, items_tup, evCbl, vl_len, List.append_nil, List.nil_append, List.cons_append, noX_k, List.length_cons, List.length_nil, setAll, optN_k, setS, nx_bind, rt_bind, endF_rt, endF_nx, wipeS, unS, evBin, evBlt, evCmp, boolR_bl]
        rw [if_pos (by decide)]
        simp only [evSs, evS, evE, evT, evP, mkP, evEs, evO, evL_val, evL_disp, bind_k, thn_k, getS, okO_k, items_tup, evCbl, vl_len, List.append_nil, List.nil_append, List.cons_append, noX_k, List.length_cons, List.length_nil, setAll, optN_k, setS, nx_bind, rt_bind, endF_rt, endF_nx, wipeS, unS, evBin, evBlt, evCmp, boolR_bl]
        rw [sub_obj q1 (i := 3) rfl rfl]
        simp only [evSs, evS, evE, evT, evP, mkP, evEs, evO, evL_val, evL_disp, bind_k, thn_k, getS, okO_k, items_tup, evCbl, vl_len, List.append_nil, List.nil_append, List.cons_append, noX_k, List.length_cons, List.length_nil, setAll, optN_k, setS, nx_bind, rt_bind, endF_rt, endF_nx, wipeS, unS, evBin, evBlt, evCmp, boolR_bl]
        rw [if_pos (mul_ok (by decide))]
        simp only [evSs, evS, evE, evT, evP, mkP, evEs, evO, evL_val, evL_disp, bind_k, thn_k, getS, okO_k, items_tup, evCbl, vl_len, List.append_nil, List.nil_append, List.cons_append, noX_k, List.length_cons, List.length_nil, setAll, optN_k, setS, nx_bind, rt_bind, endF_rt, endF_nx, wipeS, unS, evBin, evBlt, evCmp, boolR_bl]
        obtain ⟨c0, c1⟩ := mod_in (i := c) (b := 1999999327) (by decide)
        rw [if_pos ⟨by decide, by decide, by omega⟩]
        simp only [evSs, evS, evE, evT, evP, mkP, evEs, evO, evL_val, evL_disp, bind_k, thn_k, getS, okO_k, items_tup, evCbl, vl_len, List.append_nil, List.nil_append, List.cons_append, noX_k, List.length_cons, List.length_nil, setAll, optN_k, setS, nx_bind, rt_bind, endF_rt, endF_nx, wipeS, unS, evBin, evBlt, evCmp, boolR_bl]
        rw [if_pos (by decide)]
        simp only [evSs, evS, evE, evT, evP, mkP, evEs, evO, evL_val, evL_disp, bind_k, thn_k, getS, okO_k, items_tup, evCbl, vl_len, List.append_nil, List.nil_append, List.cons_append, noX_k, List.length_cons, List.length_nil, setAll, optN_k, setS, nx_bind, rt_bind, endF_rt, endF_nx, wipeS, unS, evBin, evBlt, evCmp, boolR_bl]
        generalize ((c % 1999999327 + 12113 * (cnt + 1) + 109) ^ Int.toNat 3) = z1
        obtain ⟨d0, d1⟩ := mod_in (i := z1) (b := 2147482507) (by decide)
        generalize z1 % 2147482507 = y1 at d0 d1 ⊢
        rw [sub_obj q1 (i := 3) rfl rfl]
        simp only [evSs, evS, evE, evT, evP, mkP, evEs, evO, evL_val, evL_disp, bind_k, thn_k, getS, okO_k, items_tup, evCbl, vl_len, List.append_nil, List.nil_append, List.cons_append, noX_k, List.length_cons, List.length_nil, setAll, optN_k, setS, nx_bind, rt_bind, endF_rt, endF_nx, wipeS, unS, evBin, evBlt, evCmp, boolR_bl]
        rw [if_pos (mul_ok (by decide))]
        simp only [evSs, evS, evE, evT, evP, mkP, evEs, evO, evL_val, evL_disp, bind_k, thn_k, getS, okO_k, items_tup, evCbl, vl_len, List.append_nil, List.nil_append, List.cons_append, noX_k, List.length_cons, List.length_nil, setAll, optN_k, setS, nx_bind, rt_bind, endF_rt, endF_nx, wipeS, unS, evBin, evBlt, evCmp, boolR_bl]
        rw [sub_obj q1 (i := 3) rfl rfl]
        simp only [evSs, evS, evE, evT, evP, mkP, evEs, evO, evL_val, evL_disp, bind_k, thn_k, getS, okO_k, items_tup, evCbl, vl_len, List.append_nil, List.nil_append, List.cons_append, noX_k, List.length_cons, List.length_nil, setAll, optN_k, setS, nx_bind, rt_bind, endF_rt, endF_nx, wipeS, unS, evBin, evBlt, evCmp, boolR_bl]
        rw [if_pos (mul_ok2 (by omega))]
        simp only [evSs, evS, evE, evT, evP, mkP, evEs, evO, evL_val, evL_disp, bind_k, thn_k, getS, okO_k, items_tup, evCbl, vl_len, List.append_nil, List.nil_append, List.cons_append, noX_k, List.length_cons, List.length_nil, setAll, optN_k, setS, nx_bind, rt_bind, endF_rt, endF_nx, wipeS, unS, evBin, evBlt, evCmp, boolR_bl]
        have hm : (0 : Int) ≤ 1123 * (cnt + 1) * (cnt + 1) ∧ 1123 * (cnt + 1) * (cnt + 1) ≤ 1123 * 1000001 * 1000001 := by
          constructor
          · exact Int.mul_nonneg (Int.mul_nonneg (by decide) (by omega)) (by omega)
          · exact Int.mul_le_mul (Int.mul_le_mul_of_nonneg_left (by omega) (by decide)) (by omega) (by omega) (by decide)
        rw [if_pos ⟨by decide, by decide, by omega⟩]
        simp only [evSs, evS, evE, evT, evP, mkP, evEs, evO, evL_val, evL_disp, bind_k, thn_k, getS, okO_k, items_tup, evCbl, vl_len, List.append_nil, List.nil_append, List.cons_append, noX_k, List.length_cons, List.length_nil, setAll, optN_k, setS, nx_bind, rt_bind, endF_rt, endF_nx, wipeS, unS, evBin, evBlt, evCmp, boolR_bl]
        rw [if_pos (by decide)]
        simp only [evSs, evS, evE, evT, evP, mkP, evEs, evO, evL_val, evL_disp, bind_k, thn_k, getS, okO_k, items_tup, evCbl, vl_len, List.append_nil, List.nil_append, List.cons_append, noX_k, List.length_cons, List.length_nil, setAll, optN_k, setS, nx_bind, rt_bind, endF_rt, endF_nx, wipeS, unS, evBin, evBlt, evCmp, boolR_bl]
        generalize ((y1 + 1123 * (cnt + 1) * (cnt + 1) + 83) ^ Int.toNat 5) = z2
        rw [if_pos (by decide), if_pos (by decide)]
        simp only [evSs, evS, evE, evT, evP, mkP, evEs, evO, evL_val, evL_disp, bind_k, thn_k, getS, okO_k, items_tup, evCbl, vl_len, List.append_nil, List.nil_append, List.cons_append, noX_k, List.length_cons, List.length_nil, setAll, optN_k, setS, nx_bind, rt_bind, endF_rt, endF_nx, wipeS, unS, evBin, evBlt, evCmp, boolR_bl]
        rw [if_pos hb]
        obtain ⟨v0, v1⟩ := mod_in (i := z2 % 2147482501 / 64) hb
        exact ⟨_, _, rfl, v0, v1, done3, kk3⟩
      by_cases hbig : (10 : Int) ^ Int.toNat 18 ≤ c
      · rw [decide_eq_true hbig]
        simp only [evSs, evS, evE, evT, evP, mkP, evEs, evO, evL_val, evL_disp, bind_k, thn_k, getS, okO_k, items_tup, evCbl, vl_len, List.append_nil, List.nil_append, List.cons_append, noX_k, List.length_cons, List.length_nil, setAll, optN_k, setS, nx_bind, rt_bind, endF_rt, endF_nx, wipeS, unS, evBin, evBlt, evCmp, boolR_bl]
        rw [sub_obj q1 (i := 0) rfl rfl]
        simp only [evSs, evS, evE, evT, evP, mkP, evEs, evO, evL_val, evL_disp, bind_k, thn_k, getS, okO_k, items_tup, evCbl, vl_len, List.append_nil, List.nil_append, List.cons_append, noX_k, List.length_cons, List.length_nil, setAll, optN_k, setS, nx_bind, rt_bind, endF_rt, endF_nx, wipeS, unS, evBin, evBlt, evCmp, boolR_bl, items_obj q2, List.length_map]
        by_cases hin : a < (cells.length : Int)
        · rw [decide_eq_true hin]
          simp only [evSs, evS, evE, evT, evP, mkP, evEs, evO, evL_val, evL_disp, bind_k, thn_k, getS, okO_k, items_tup, evCbl, vl_len, List.append_nil, List.nil_append, List.cons_append, noX_k, List.length_cons, List.length_nil, setAll, optN_k, setS, nx_bind, rt_bind, endF_rt, endF_nx, wipeS, unS, evBin, evBlt, evCmp, boolR_bl]
          rw [if_pos hb, if_pos (by omega)]
          simp only [evSs, evS, evE, evT, evP, mkP, evEs, evO, evL_val, evL_disp, bind_k, thn_k, getS, okO_k, items_tup, evCbl, vl_len, List.append_nil, List.nil_append, List.cons_append, noX_k, List.length_cons, List.length_nil, setAll, optN_k, setS, nx_bind, rt_bind, endF_rt, endF_nx, wipeS, unS, evBin, evBlt, evCmp, boolR_bl]
          rw [set_obj q1 (i := 2) rfl]
          simp only [evSs, evS, evE, evT, evP, mkP, evEs, evO, evL_val, evL_disp, bind_k, thn_k, getS, okO_k, items_tup, evCbl, vl_len, List.append_nil, List.nil_append, List.cons_append, noX_k, List.length_cons, List.length_nil, setAll, optN_k, setS, nx_bind, rt_bind, endF_rt, endF_nx, wipeS, unS, evBin, evBlt, evCmp, boolR_bl, putP]
          rw [if_pos hb]
          obtain ⟨v0, v1⟩ := mod_in (i := c) hb
          refine ⟨_, _, rfl, v0, v1, ⟨⟨s, cells, a + 1, c / b, Store.get_put_same, ?_, hso, hs3, by omega, Int.ediv_nonneg (Int.le_trans (by decide) hbig) (by omega)⟩, hlt3, by omega⟩, kk3.trans Keep.put⟩
          rw [Store.get_put_ne (Ne.symm hso)]
          exact q2
        · rw [decide_eq_false hin]
          exact last
      · rw [decide_eq_false hbig]
        exact last
end
end K32

namespace K32
open PySem L2 Ev Cyc
theorem m19 {k : Nat} {ns : List Int} : ∃ st', evF T (k + 1) 19 [.rol (ns.map PV.int)] Store.empty = .ok (.obj 1) st' ∧ Fd 1 st' 0 := by
  have e0 : evF T (k + 1) 19 [.rol (ns.map PV.int)] Store.empty = endF (evSs (evF T k) f19.body [some (.rol (ns.map PV.int))] Store.empty) := rfl
  rw [e0]
  obtain ⟨cells, hc⟩ : ∃ cells : List Int, cutL (ns.map PV.int) none (some 63) = cells.map PV.int := by
    unfold cutL
    rw [← List.map_drop, ← List.map_take]
    exact ⟨_, rfl⟩
  simp only [f19, evSs, evS, evE, evT, evP, mkP, evEs, evO, evL_val, evL_disp, bind_k, thn_k, getS, okO_k, items_tup, evCbl, vl_len, List.append_nil, List.nil_append, List.cons_append, noX_k, List.length_cons, List.length_nil, setAll, optN_k, setS, nx_bind, rt_bind, endF_rt, endF_nx, wipeS, unS, evBin, evBlt, evCmp, boolR_bl, evSlc, items, hc, allocL]
  rw [if_size (by decide)]
  simp only [evSs, evS, evE, evT, evP, mkP, evEs, evO, evL_val, evL_disp, bind_k, thn_k, getS, okO_k, items_tup, evCbl, vl_len, List.append_nil, List.nil_append, List.cons_append, noX_k, List.length_cons, List.length_nil, setAll, optN_k, setS, nx_bind, rt_bind, endF_rt, endF_nx, wipeS, unS, evBin, evBlt, evCmp, boolR_bl]
  refine ⟨_, rfl, ⟨⟨0, cells, 0, 0, ?_, ?_, by decide, Nat.zero_lt_succ _, by decide, by decide⟩, Nat.le_refl 2, by decide⟩⟩
  · exact Store.get_push_same (s := Store.empty.push (.lst (cells.map PV.int)))
  · rw [Store.get_push_ne (show (1 : Nat) ≠ 0 by decide)]
    exact Store.get_push_same (s := Store.empty)
/-! ### draws in a row -/
theorem compGo_draw {α : Type} {turn : PV → List PV → Store → Res (List PV)} {h : α → PV} (I : Nat → Store → Prop) (P : Int → Prop) (J : Nat) : ∀ (l : List α) (j : Nat) (acc : List PV) (st : Store), j + l.length ≤ J → (∀ a ∈ l, ∀ j acc st, j < J → I j st → ∃ v st', turn (h a) acc st = .ok (.int v :: acc) st' ∧ P v ∧ I (j + 1) st') → I j st →
    ∃ (vs : List Int) (st' : Store), compGo turn (l.map h) acc st = .ok ((vs.map PV.int).reverse ++ acc) st' ∧ vs.length = l.length ∧ (∀ v ∈ vs, P v) ∧ I (j + l.length) st'
  | [], j, acc, st, _, _, i => ⟨[], st, rfl, rfl, (fun _ hv => by cases hv), i⟩
  | a :: l, j, acc, st, hJ, e, i => by
    rw [List.length_cons] at hJ
    obtain ⟨v, st1, e1, p1, i1⟩ := e a List.mem_cons_self j acc st (by omega) i
    obtain ⟨vs, st2, e2, l2, p2, i2⟩ := compGo_draw I P J l (j + 1) (.int v :: acc) st1 (by omega) (fun b hb => e b (List.mem_cons_of_mem _ hb)) i1
    refine ⟨v :: vs, st2, ?_, by simp [l2], fun w hw => ?_, ?_⟩
    · simp only [List.map_cons, compGo]
      rw [e1, bind_k, e2]
      simp
    · rcases List.mem_cons.mp hw with z | z
      · rw [z]; exact p1
      · exact p2 w z
    · have : j + 1 + l.length = j + (a :: l).length := by simp; omega
      rw [← this]
      exact i2
theorem evL_draw {cf : Nat → List PV → Store → Res PV} {own : List Nat} {t : Nat} {elt : E} {env : Ev.Env} {st : Store} {n : Nat} {it : Ev.It} (I : Nat → Store → Prop) (P : Int → Prop) (hi : evI cf it env st = .ok (.st ((List.range n).map fun (i : Nat) => PV.int i)) st) (hn : n ≤ 16777215)
    (he : ∀ (a j : Nat) (st : Store), j < n → I j st → ∃ v st', evE cf elt (setS (.int a) (wipeS env own) t) st = .ok (.int v) st' ∧ P v ∧ I (j + 1) st') (i0 : I 0 st) :
    ∃ f st', evL cf (.comp own [t] true it .nil elt) env st = .ok (.tmp, vl n f) st' ∧ (∀ i, i < n → P (f i)) ∧ I n st' := by
  obtain ⟨vs, st', e, l, p, i⟩ := compGo_draw (turn := compTurn1 [t] true (evTs cf .nil) (evP cf elt).1 (wipeS env own)) (h := fun (i : Nat) => PV.int i) I P n (List.range n) 0 [] st (by simp) (fun a _ j acc st hj i => by
    obtain ⟨v, st1, e1, p1, i1⟩ := he a j st hj i
    refine ⟨v, st1, ?_, p1, i1⟩
    simp only [evE] at e1
    simp only [compTurn1, bindT, evTs, noX_k, bind_k, e1]) i0
  have hv : vs.map PV.int = vl n fun i => vs.getD i 0 := by
    rw [List.length_range] at l
    refine List.ext_getElem? fun i => ?_
    by_cases hi : i < n
    · simp [vl, hi, l]
    · rw [List.getElem?_eq_none (by simp; omega), List.getElem?_eq_none (by rw [vl_len]; omega)]
  refine ⟨fun i => vs.getD i 0, st', ?_, fun i hi => ?_, ?_⟩
  · simp only [evL, hi, bind_k, compAll, List.length_map, List.length_range, if_pos hn]
    rw [e, bind_k]
    simp [compEnd, hv]
  · rw [List.length_range] at l
    have : i < vs.length := by omega
    simp only [List.getD_eq_getElem?_getD, List.getElem?_eq_getElem this, Option.getD_some]
    exact p _ (List.getElem_mem this)
  · rw [List.length_range, Nat.zero_add] at i
    exact i
theorem evI_rng2 {cf : Nat → List PV → Store → Res PV} {env : Ev.Env} {st : Store} {a b : E} {lo : Int} {m : Nat} (ha : evE cf a env st = .ok (.int lo) st) (hb : evE cf b env st = .ok (.int (lo + m)) st) (h0 : 0 ≤ lo) (h1 : lo ≤ 1000) (hm : m ≤ 16777215) :
    evI cf (.rng2 a b) env st = .ok (.st ((List.range m).map fun (i : Nat) => PV.int (lo + i))) st := by
  simp only [evE] at ha hb
  simp only [evI, ha, hb, bind_k]
  have b1 : bigI lo = true := by simp only [bigI, Bool.and_eq_true, decide_eq_true_eq]; omega
  have b2 : bigI (lo + m) = true := by simp only [bigI, Bool.and_eq_true, decide_eq_true_eq]; omega
  rw [b1, b2]
  have e : (lo + (m : Int) - lo).toNat = m := by omega
  simp only [Bool.and_self, if_true, e, rngL_eq]
theorem Fd.push {o : Nat} {st : Store} {cnt : Int} {x : MO} (F : Fd o st cnt) : Fd o (st.push x) cnt := by
  obtain ⟨⟨s, cells, a, b, h1, h2, h3, h4, h5, h6⟩, hl, hp⟩ := F
  refine ⟨⟨s, cells, a, b, ?_, ?_, h3, Nat.lt_succ_of_lt h4, h5, h6⟩, Nat.lt_succ_of_lt hl, hp⟩
  · rw [Store.get_push_ne (by omega)]; exact h1
  · rw [Store.get_push_ne (by omega)]; exact h2
/-- what a voice of the law is -/
def VoiceIs (way : Int) (w : Nat) (f : Nat → Int) : Prop := (∀ i, i < w → -49 ≤ f i ∧ f i ≤ 49) ∧ (way = 0 → ∀ i, i < w → f i = 0 ∨ f i = 1)
section
variable {k : Nat} {st : Store}
/-- a row of draws -/
theorem row {o : Nat} {cnt : Int} {w : Nat} {own : List Nat} {t : Nat} {elt : E} {it : Ev.It} {env : Ev.Env} (P : Int → Prop) (F : Fd o st cnt) (hw : w ≤ 30) (hc : cnt ≤ 900000) (hi : evI (evF T (k + 1)) it env st = .ok (.st ((List.range w).map fun (i : Nat) => PV.int i)) st)
    (he : ∀ (a : Nat) (st1 : Store) (c : Int), Fd o st1 c → c ≤ 1000000 → ∃ v st2, evE (evF T (k + 1)) elt (setS (.int a) (wipeS env own) t) st1 = .ok (.int v) st2 ∧ P v ∧ Fd o st2 (c + 1) ∧ Keep o st1 st2) :
    ∃ f st', evL (evF T (k + 1)) (.comp own [t] true it .nil elt) env st = .ok (.tmp, vl w f) st' ∧ (∀ i, i < w → P (f i)) ∧ Fd o st' (cnt + w) ∧ Keep o st st' := by
  have he' : ∀ (a j : Nat) (s : Store), j < w → (Fd o s (cnt + j) ∧ Keep o st s) → ∃ v s2, evE (evF T (k + 1)) elt (setS (.int a) (wipeS env own) t) s = .ok (.int v) s2 ∧ P v ∧ Fd o s2 (cnt + ((j + 1 : Nat) : Int)) ∧ Keep o st s2 := by
    intro a j s hj i
    obtain ⟨F1, K1⟩ := i
    obtain ⟨v, s2, e2, p2, F2, K2⟩ := he a s (cnt + j) F1 (by omega)
    have e3 : cnt + ((j + 1 : Nat) : Int) = cnt + j + 1 := by omega
    exact ⟨v, s2, e2, p2, by rw [e3]; exact F2, K1.trans K2⟩
  obtain ⟨f, st', e, p, i⟩ := evL_draw (n := w) (elt := elt) (own := own) (t := t) (fun j s => Fd o s (cnt + j) ∧ Keep o st s) P hi (by omega) he' ⟨by simpa using F, Keep.refl _ _⟩
  exact ⟨f, st', e, p, i.1, i.2⟩
/-- one draw within an expression -/
theorem drawn {o : Nat} {cnt b : Int} {env : Ev.Env} {args : Es} (F : Fd o st cnt) (hc : cnt ≤ 1000000) (hb : 0 < b) (hb2 : b ≤ 1000) (ha : evEs (evF T (k + 1)) args env st = .ok [.obj o, .int b] st) :
    ∃ v st', evE (evF T (k + 1)) (.call 20 args []) env st = .ok (.int v) st' ∧ 0 ≤ v ∧ v < b ∧ Fd o st' (cnt + 1) ∧ Keep o st st' := by
  obtain ⟨v, st', e, v0, v1, F', K'⟩ := m20 (k := k) F hc hb hb2
  refine ⟨v, st', ?_, v0, v1, F', K'⟩
  simp only [evE, evP, mkP, ha, bind_k, List.append_nil, e, noX_k]
theorem steps_ok {w : Nat} (hw : 0 < w) : ∃ d : List Nat, ((List.range w).filter fun (i : Nat) => decide ((w : Int) % (1 + (i : Int)) = 0)).map (fun (i : Nat) => PV.int (1 + i)) = d.map (fun (i : Nat) => PV.int i) ∧ d ≠ [] ∧ d.length ≤ w ∧ ∀ x ∈ d, 1 ≤ x ∧ x ≤ w := by
  refine ⟨((List.range w).filter fun (i : Nat) => decide ((w : Int) % (1 + (i : Int)) = 0)).map (fun i => 1 + i), ?_, ?_, ?_, ?_⟩
  · rw [List.map_map]
    refine List.map_congr_left fun i _ => ?_
    simp
  · intro h
    have h0 : (0 : Nat) ∈ (List.range w).filter fun (i : Nat) => decide ((w : Int) % (1 + (i : Int)) = 0) := by
      rw [List.mem_filter]
      exact ⟨List.mem_range.mpr hw, by simp⟩
    rw [List.map_eq_nil_iff] at h
    rw [h] at h0
    cases h0
  · rw [List.length_map]
    exact Nat.le_trans (List.length_filter_le _ _) (by simp)
  · intro x hx
    obtain ⟨i, hi, rfl⟩ := List.mem_map.mp hx
    have := List.mem_range.mp (List.mem_filter.mp hi).1
    omega
theorem m25 {o : Nat} {cnt way : Int} {w : Nat} (F : Fd o st cnt) (hc : cnt ≤ 800000) (h0 : 0 < w) (hw : w ≤ 30) : ∃ f st' cnt', evF T (k + 2) 25 [.obj o, .int w, .int way] st = .ok (vt w f) st' ∧ VoiceIs way w f ∧ Fd o st' cnt' ∧ cnt' ≤ cnt + 40 := by
  have e0 : evF T (k + 2) 25 [.obj o, .int w, .int way] st = endF (evSs (evF T (k + 1)) f25.body [some (.obj o), some (.int w), some (.int way), none, none, none, none, none] st) := rfl
  rw [e0]
  simp only [f25, evSs, evS, evT, evE, evP, mkP, bind_k, getS, okO_k, evCmp, eqD, okB, boolR_bl, thn_k]
  by_cases w0 : way = 0
  · subst w0
    obtain ⟨f, st', e, p, F', K'⟩ := row (k := k) (own := [3]) (t := 3) (elt := .call 20 (.cons (.slot 0) (.cons (.lit (.int 2)) .nil)) []) (it := .rng1 (.slot 1)) (env := [some (.obj o), some (.int w), some (.int 0), none, none, none, none, none]) (fun v => 0 ≤ v ∧ v < 2) F hw (by omega) (evI_rng rfl (by omega)) (fun a st1 c F1 hc1 => by
      obtain ⟨v, st2, e2, v0, v1, F2, K2⟩ := drawn (k := k) (b := 2) (args := .cons (.slot 0) (.cons (.lit (.int 2)) .nil)) (env := setS (.int a) (wipeS [some (.obj o), some (.int w), some (.int 0), none, none, none, none, none] [3]) 3) F1 hc1 (by decide) (by decide) rfl
      exact ⟨v, st2, e2, ⟨v0, v1⟩, F2, K2⟩)
    refine ⟨f, st', cnt + w, ?_, ⟨fun i hi => ?_, fun _ i hi => ?_⟩, F', by omega⟩
    · simp only [beq_self_eq_true, e, bind_k, evCbl, thn_k, rt_bind, endF_rt]
    · have := p i hi; omega
    · have := p i hi; omega
  · have b0 : (way == 0) = false := by simpa using w0
    simp only [b0, nx_bind, getS, okO_k, bind_k, evCmp, eqD, okB, boolR_bl, thn_k]
    by_cases w1 : way = 1
    · subst w1
      obtain ⟨f, st', e, p, F', K'⟩ := row (k := k) (own := [3]) (t := 3) (elt := .bin .sub (.call 20 (.cons (.slot 0) (.cons (.lit (.int 5)) .nil)) []) (.lit (.int 2))) (it := .rng1 (.slot 1)) (env := [some (.obj o), some (.int w), some (.int 1), none, none, none, none, none]) (fun v => -2 ≤ v ∧ v < 3) F hw (by omega) (evI_rng rfl (by omega)) (fun a st1 c F1 hc1 => by
        obtain ⟨v, st2, e2, v0, v1, F2, K2⟩ := drawn (k := k) (b := 5) (args := .cons (.slot 0) (.cons (.lit (.int 5)) .nil)) (env := setS (.int a) (wipeS [some (.obj o), some (.int w), some (.int 1), none, none, none, none, none] [3]) 3) F1 hc1 (by decide) (by decide) rfl
        refine ⟨v - 2, st2, ?_, ⟨by omega, by omega⟩, F2, K2⟩
        simp only [evE] at e2
        simp only [evE, evP, mkP] at e2 ⊢
        rw [e2]
        rfl)
      refine ⟨f, st', cnt + w, ?_, ⟨fun i hi => ?_, fun z => absurd z (by decide)⟩, F', by omega⟩
      · rw [e]
        rfl
      · have := p i hi; omega
    · have b1 : (way == 1) = false := by simpa using w1
      simp only [b1, nx_bind, getS, okO_k, bind_k, evCmp, eqD, okB, boolR_bl, thn_k]
      by_cases w2 : way = 2
      · subst w2
        obtain ⟨f, st', e, p, F', K'⟩ := row (k := k) (own := [3]) (t := 3) (elt := .bin .sub (.call 20 (.cons (.slot 0) (.cons (.lit (.int 99)) .nil)) []) (.lit (.int 49))) (it := .rng1 (.slot 1)) (env := [some (.obj o), some (.int w), some (.int 2), none, none, none, none, none]) (fun v => -49 ≤ v ∧ v ≤ 49) F hw (by omega) (evI_rng rfl (by omega)) (fun a st1 c F1 hc1 => by
          obtain ⟨v, st2, e2, v0, v1, F2, K2⟩ := drawn (k := k) (b := 99) (args := .cons (.slot 0) (.cons (.lit (.int 99)) .nil)) (env := setS (.int a) (wipeS [some (.obj o), some (.int w), some (.int 2), none, none, none, none, none] [3]) 3) F1 hc1 (by decide) (by decide) rfl
          refine ⟨v - 49, st2, ?_, ⟨by omega, by omega⟩, F2, K2⟩
          simp only [evE, evP, mkP] at e2 ⊢
          rw [e2]
          rfl)
        refine ⟨f, st', cnt + w, ?_, ⟨fun i hi => ?_, fun z => absurd z (by decide)⟩, F', by omega⟩
        · rw [e]
          rfl
        · have := p i hi; omega
      · have b2 : (way == 2) = false := by simpa using w2
        simp only [b2, nx_bind, getS, okO_k, bind_k, evCmp, eqD, okB, boolR_bl, thn_k]
        -- the steps that divide w
        obtain ⟨d, hd, dne, dl, dx⟩ := steps_ok h0
        rw [evL_filt (l := List.range w) (h := fun (i : Nat) => .int (1 + i)) (p := fun (i : Nat) => decide ((w : Int) % (1 + (i : Int)) = 0)) (g := fun (i : Nat) => .int (1 + i)) (evI_rng2 rfl (by show Res.ok (PV.int ((w : Int) + 1)) st = _; rw [Int.add_comm]) (by decide) (by decide) (by omega)) (by simp; omega) ?hc ?he]
        case hc =>
          intro i _
          simp only [evT, evP, mkP, getS, okO_k, wipeS, unS, setS, bind_k, evBin]
          rw [if_pos (by omega)]
          rfl
        case he => intro i _ _; rfl
        simp only [hd, bind_k, allocL, thn_k, nx_bind, setS, getS, okO_k]
        generalize hS1 : st.push (MO.lst (d.map fun (i : Nat) => PV.int i)) = st1
        have F1 : Fd o st1 cnt := by rw [← hS1]; exact Fd.push F
        have q1 : st1.get st.n = some (.lst (d.map fun (i : Nat) => PV.int i)) := by rw [← hS1]; exact Store.get_push_same
        have on : o ≠ st.n := Nat.ne_of_lt F.lt
        have n1 : st.n < st1.n := by rw [← hS1]; exact Nat.lt_succ_self _
        simp only [evL_val, evE, evP, mkP, getS, okO_k, bind_k, items_obj q1, evCbl, List.length_map, evEs]
        have dpos : 0 < d.length := by
          cases d with
          | nil => exact absurd rfl dne
          | cons x xs => simp
        obtain ⟨u, st2, eu, u0, u1, F2, K2⟩ := m20 (k := k) (b := (d.length : Int)) F1 (by omega) (by omega) (by omega)
        simp only [List.append_nil, eu, noX_k, bind_k]
        have q2 : st2.get st.n = some (.lst (d.map fun (i : Nat) => PV.int i)) := by rw [K2.get _ n1 (Ne.symm on)]; exact q1
        obtain ⟨s, hs⟩ : ∃ s, d[u.toNat]? = some s := ⟨d[u.toNat]'(by omega), List.getElem?_eq_getElem (by omega)⟩
        have hs' := dx s (List.mem_of_getElem? hs)
        rw [sub_obj q2 (i := u.toNat) (x := .int s) (by rw [List.length_map]; exact ixN_in u0 u1) (by rw [atP_get, List.getElem?_map, hs]; rfl)]
        simp only [thn_k, nx_bind, setS]
        -- some draws
        obtain ⟨f, st3, e3, p3, F3, K3⟩ := row (k := k) (own := [3]) (t := 3) (elt := .bin .sub (.call 20 (.cons (.slot 0) (.cons (.lit (.int 3)) .nil)) []) (.blt .int (.cons (.cmp .eq (.slot 2) (.lit (.int 4))) .nil))) (it := .rng1 (.slot 6)) (env := [some (.obj o), some (.int w), some (.int way), none, some (.obj st.n), none, some (.int s), none]) (fun v => -1 ≤ v ∧ v ≤ 2) F2 (by omega) (by omega) (evI_rng rfl (by omega)) (fun a st1 c F1 hc1 => by
          obtain ⟨v, st2, e2, v0, v1, F2, K2⟩ := drawn (k := k) (b := 3) (args := .cons (.slot 0) (.cons (.lit (.int 3)) .nil)) (env := setS (.int a) (wipeS [some (.obj o), some (.int w), some (.int way), none, some (.obj st.n), none, some (.int s), none] [3]) 3) F1 hc1 (by decide) (by decide) rfl
          refine ⟨v - (if (way == 4) = true then 1 else 0), st2, ?_, ?_, F2, K2⟩
          · simp only [evE, evP, mkP] at e2 ⊢
            rw [e2]
            rfl
          · split <;> omega)
        rw [e3]
        simp only [bind_k, thn_k, nx_bind, setS]
        generalize hS4 : st3.push (MO.lst (vl s f)) = st4
        have q4 : st4.get st3.n = some (.lst (vl s f)) := by rw [← hS4]; exact Store.get_push_same
        have F4 : Fd o st4 (cnt + 1 + s) := by rw [← hS4]; exact Fd.push F3
        rw [evL_map (l := List.range w) (h := fun (i : Nat) => .int i) (g := fun (i : Nat) => .int (f (i % s))) (evI_rng rfl (by omega)) (by simp; omega) ?hq]
        case hq =>
          intro i _
          simp only [evE, evP, mkP, getS, okO_k, wipeS, unS, setS, bind_k, evBin, evEs, evBlt]
          rw [if_pos (by omega)]
          have hm : (i : Int) % (s : Int) = ((i % s : Nat) : Int) := rfl
          have hlt := Nat.mod_lt i (show 0 < s by omega)
          rw [hm]
          exact sub_obj q4 (i := i % s) (by rw [vl_len, ixN_in (by omega) (by omega)]; rfl) (vl_at f hlt)
        refine ⟨fun i => f (i % s), st4, cnt + 1 + s, rfl, ⟨fun i hi => ?_, fun z => absurd z w0⟩, F4, by omega⟩
        have := p3 (i % s) (Nat.mod_lt i (by omega))
        show -49 ≤ f (i % s) ∧ f (i % s) ≤ 49
        omega
end
structure Ext (st st' : Store) : Prop where
  le : st.n ≤ st'.n
  get : ∀ m, m < st.n → st'.get m = st.get m
theorem Ext.refl (st : Store) : Ext st st := ⟨Nat.le_refl _, fun _ _ => rfl⟩
theorem Ext.trans {a b c : Store} (h : Ext a b) (g : Ext b c) : Ext a c := ⟨Nat.le_trans h.le g.le, fun m hm => (g.get m (Nat.lt_of_lt_of_le hm h.le)).trans (h.get m hm)⟩
theorem Ext.push {st : Store} {x : MO} : Ext st (st.push x) := ⟨Nat.le_succ _, fun m hm => Store.get_push_ne (Nat.ne_of_gt hm)⟩
theorem Fd.ext {o : Nat} {st st' : Store} {cnt : Int} (F : Fd o st cnt) (e : Ext st st') : Fd o st' cnt := by
  obtain ⟨⟨s, cells, a, b, h1, h2, h3, h4, h5, h6⟩, hl, hp⟩ := F
  exact ⟨⟨s, cells, a, b, by rw [e.get _ hl]; exact h1, by rw [e.get _ h4]; exact h2, h3, Nat.lt_of_lt_of_le h4 e.le, h5, h6⟩, Nat.lt_of_lt_of_le hl e.le, hp⟩
theorem put_vl {n : Nat} {F : Nat → Int} {x : Int} {s : Nat} : putP (.int x) (vl n F) s = vl n fun k => if k = s then x else F k := by
  rw [putP_set]
  refine List.ext_getElem? fun i => ?_
  rw [List.getElem?_set]
  by_cases hs : s = i
  · subst hs
    by_cases hi : s < n
    · simp [vl, hi]
    · simp [vl, hi]
  · rw [if_neg hs]
    by_cases hi : i < n
    · have : ¬ i = s := fun e => hs e.symm
      simp [vl, hi, this]
    · simp [vl, hi]
theorem forGo_inv {tg : List Nat} {one : Bool} {body : Ev.Env → Store → SR} (I : Nat → Ev.Env → Store → Prop) : ∀ (m s : Nat) (env : Ev.Env) (st : Store), (∀ i, s ≤ i → i < s + m → ∀ env st, I i env st → ∃ env1 env2 st2, bindT one tg (.int i) env = some env1 ∧ body env1 st = .nx env2 st2 ∧ I (i + 1) env2 st2) → I s env st →
    ∃ env' st', forGo tg one body ((List.range' s m).map fun (i : Nat) => PV.int i) env st = .nx env' st' ∧ I (s + m) env' st'
  | 0, s, env, st, _, i => ⟨env, st, rfl, i⟩
  | m + 1, s, env, st, h, i => by
    obtain ⟨e1, e2, s2, b1, b2, i2⟩ := h s (Nat.le_refl _) (by omega) env st i
    obtain ⟨e3, s3, f3, i3⟩ := forGo_inv I m (s + 1) e2 s2 (fun j h1 h2 => h j (by omega) (by omega)) i2
    have e4 : s + 1 + m = s + (m + 1) := by omega
    refine ⟨e3, s3, ?_, by rw [← e4]; exact i3⟩
    simp only [List.range'_succ, List.map_cons, forGo, b1, b2]
    exact f3
def dv (n : Nat) (f : Nat → Int) : PyData := .tuple ((List.range n).map fun i => .int (f i))
theorem toD_dv {st : Store} {k n : Nat} {f : Nat → Int} : toD st (k + 1) (vt n f) = some (dv n f) := toD_vt
theorem dv_congr {n : Nat} {f g : Nat → Int} (h : ∀ i, i < n → f i = g i) : dv n f = dv n g := by
  unfold dv
  exact congrArg _ (List.map_congr_left fun i hi => by rw [h i (List.mem_range.mp hi)])
theorem dv_show {n : Nat} {f : Nat → Int} {b : Nat} (h : ∀ i, i < n → (f i).natAbs ≤ b) (hb : b < 2 ^ 100) : (dv n f).showable = true := by
  simp only [dv, PyData.showable]
  exact showAll_map fun i hi => Nat.lt_of_le_of_lt (h i (List.mem_range.mp hi)) hb
theorem dv_sz {n : Nat} {f : Nat → Int} : szD (dv n f) = 1923 * n + 3 := by
  simp only [dv, szD, szAll_map, List.length_range]
theorem toD_bl {st : Store} {k : Nat} {b : Bool} : toD st k (.bl b) = some (.bool b) := by cases k <;> rfl
theorem line_big : 400000 ≤ sizeLine := by decide
theorem noDict_map {l : List Nat} {f : Nat → Int} : PyData.hasDictAll (l.map fun i => .int (f i)) = false := by
  induction l with
  | nil => rfl
  | cons i l ih => simp only [List.map_cons, PyData.hasDictAll, PyData.hasDict, ih, Bool.or_self]
theorem dv_dict {n : Nat} {f : Nat → Int} : (dv n f).hasDict = false := by
  simp only [dv, PyData.hasDict, noDict_map]
theorem ev_rpr {cf : Nat → List PV → Store → Res PV} {neg : Bool} {a b : E} {env : Ev.Env} {st st1 st2 : Store} {x y : PV} {d : PyData} (ha : evE cf a env st = .ok x st1) (hx : toD st1 60 x = some d) (hs : d.showable = true) (hz : szD d ≤ sizeLine) (hd : d.hasDict = false) (hb : evE cf b env st1 = .ok y st2) (hy : toD st2 60 y = some d) :
    evE cf (.rpr neg a b) env st = .ok (.bl (!neg)) st2 := by
  show ((((evE cf a env st).bind shownD)).bind fun d st1 => (((evE cf b env st1).bind shownD)).bind fun e st2 => rprEnd neg d e st2) = _
  have c : (d.showable && decide (szD d ≤ sizeLine)) = true := by rw [hs, decide_eq_true hz]; rfl
  rw [ha, bind_k]
  simp only [shownD, hx]
  rw [if_pos c, bind_k, hb, bind_k]
  simp only [shownD, hy]
  rw [if_pos c, bind_k]
  unfold rprEnd
  rw [if_pos (sameD_refl d hd)]
theorem ev_test {cf : Nat → List PV → Store → Res PV} {neg : Bool} {a b : E} {env : Ev.Env} {st st2 : Store} {k : Bool} (h : evE cf (.rpr neg a b) env st = .ok (.bl k) st2) : evT cf (.rpr neg a b) env st = .ok k st2 := by
  show boolR (evE cf (.rpr neg a b) env st) = _
  rw [h]
  rfl
theorem ev_lst {cf : Nat → List PV → Store → Res PV} {es : Es} {env : Ev.Env} {st st1 : Store} {vs : List PV} (h : evEs cf es env st = .ok vs st1) (hl : vs.length ≤ 1000) : evE cf (.mk (.disp es)) env st = .ok (.obj st1.n) (st1.push (.lst vs)) := by
  simp only [evE, evP, mkP, evL_disp, h, bind_k, if_size hl, allocL]
theorem toD_lst {st : Store} {m : Nat} {vs : List PV} {ds : List PyData} (h : st.get m = some (.lst vs)) (hd : mapO (toD st 59) vs = some ds) : toD st 60 (.obj m) = some (.list ds) := by
  simp only [toD, h, hd]
theorem e_iteT {cf : Nat → List PV → Store → Res PV} {c a b : E} {env : Ev.Env} {st st' : Store} (h : evT cf c env st = .ok true st') : evE cf (.ite c a b) env st = evE cf a env st' := by
  simp only [evT] at h
  simp only [evE, evP, h, bind_k]
theorem e_iteF {cf : Nat → List PV → Store → Res PV} {c a b : E} {env : Ev.Env} {st st' : Store} (h : evT cf c env st = .ok false st') : evE cf (.ite c a b) env st = evE cf b env st' := by
  simp only [evT] at h
  simp only [evE, evP, h, bind_k]
theorem e_bin {cf : Nat → List PV → Store → Res PV} {op : Bop} {a b : E} {env : Ev.Env} {st st1 st2 : Store} {x y : PV} (ha : evE cf a env st = .ok x st1) (hb : evE cf b env st1 = .ok y st2) : evE cf (.bin op a b) env st = evBin op x y st2 := by
  simp only [evE] at ha hb
  simp only [evE, evP, mkP, ha, hb, bind_k]
end K32

namespace K32
open PySem L2 Ev Cyc
/-! ### the kin of a voice, as the code makes them -/
theorem vl_cut {n a m : Nat} {f : Nat → Int} (h : a + m ≤ n) : ((vl n f).drop a).take m = vl m fun i => f (a + i) := by
  refine List.ext_getElem? fun i => ?_
  by_cases hb : i < m
  · rw [List.getElem?_take_of_lt hb, List.getElem?_drop, ← atP_get, ← atP_get, vl_at _ (by omega), vl_at _ hb]
  · rw [List.getElem?_eq_none (by simp; omega), List.getElem?_eq_none (by rw [vl_len]; omega)]
theorem vl_app {a b : Nat} {f g h : Nat → Int} (h1 : ∀ i, i < a → h i = f i) (h2 : ∀ i, i < b → h (a + i) = g i) : vl a f ++ vl b g = vl (a + b) h := by
  refine List.ext_getElem? fun i => ?_
  by_cases ha : i < a
  · rw [List.getElem?_append_left (by rw [vl_len]; exact ha), ← atP_get, ← atP_get, vl_at _ ha, vl_at _ (by omega), h1 i ha]
  · rw [List.getElem?_append_right (by rw [vl_len]; omega), vl_len]
    by_cases hb : i < a + b
    · rw [← atP_get, ← atP_get, vl_at _ (by omega), vl_at _ hb, ← h2 (i - a) (by omega)]
      congr 3
      omega
    · rw [List.getElem?_eq_none (by rw [vl_len]; omega), List.getElem?_eq_none (by rw [vl_len]; omega)]
theorem rot_vl {n a : Nat} {f : Nat → Int} (ha : a < n) : cutL (vl n f) (some (a : Int)) none ++ cutL (vl n f) none (some (a : Int)) = vl n fun i => f ((i + a) % n) := by
  unfold cutL
  simp only [vl_len, HT.sIx_nat, HT.sIx_none, Nat.min_eq_left (show a ≤ n by omega)]
  rw [vl_cut (show a + (n - a) ≤ n by omega), vl_cut (show 0 + (a - 0) ≤ n by omega)]
  have e : n = (n - a) + (a - 0) := by omega
  rw [vl_app (h := fun i => f ((i + a) % n)) (fun i hi => ?_) fun i hi => ?_, ← e]
  · show f ((i + a) % n) = f (a + i)
    rw [Nat.mod_eq_of_lt (by omega), Nat.add_comm]
  · show f ((n - a + i + a) % n) = f (0 + i)
    have : n - a + i + a = i + n := by omega
    rw [this, Nat.add_mod_right, Nat.mod_eq_of_lt (by omega), Nat.zero_add]
def tupP (l : List Int) : PV := .tup (l.map .int)
theorem tupP_vv (n : Nat) (f : Nat → Int) : tupP (vv n f) = vt n f := by
  unfold tupP vv vt vl
  rw [List.map_map]
  rfl
theorem tl_eq (n : Nat) (f : Nat → Int) : ((List.range n).map fun k => vt n (tn n k f)) = (TL n f).map tupP := by
  unfold TL
  rw [List.map_map]
  exact List.map_congr_left fun k _ => (tupP_vv n (tn n k f)).symm
theorem ev_sset {cf : Nat → List PV → Store → Res PV} {l : L} {env : Ev.Env} {st st' : Store} {q : Src × List PV} (h : evL cf l env st = .ok q st') : evL cf (.sset l) env st = sset q st' := by
  simp only [evL]
  rw [h, bind_k]
theorem ev_cbl {cf : Nat → List PV → Store → Res PV} {b : Cbl} {l : L} {env : Ev.Env} {st st' : Store} {q : Src × List PV} (h : evL cf l env st = .ok q st') : evE cf (.cbl b l) env st = evCbl b q st' := by
  simp only [evE, evP, mkP]
  rw [h, bind_k]
section
variable {k n : Nat} {f g : Nat → Int} {st : Store}
theorem m2 {t : Nat} (ht : t < n) (hn : n ≤ 900) : evF T (k + 1) 2 [vt n f, .int t] st = .ok (vt n (tn n t f)) st := by
  show endF (evSs (evF T k) f2.body [some (vt n f), some (.int t), none] st) = _
  simp only [f2, evSs, evS, evE, evT, evP, mkP, evEs, evO, evL_val, evL_disp, bind_k, thn_k, getS, okO_k, items_tup, evCbl, vl_len, List.append_nil, List.nil_append, List.cons_append, noX_k, List.length_cons, List.length_nil, setAll, optN_k, setS, nx_bind, rt_bind, endF_rt, endF_nx, wipeS, unS, evBin, evBlt, evCmp, boolR_bl]
  rw [if_pos (by omega)]
  have ha : -(t : Int) % (n : Int) = (((n - t) % n : Nat) : Int) := by
    have := mod_nat (k := 0) ht
    rw [Nat.zero_add] at this
    rw [← this]
    congr 1
    omega
  rw [ha]
  have b1 : (n - t) % n < n := Nat.mod_lt _ (by omega)
  simp only [evSs, evS, evE, evT, evP, mkP, evEs, evO, evL_val, evL_disp, bind_k, thn_k, getS, okO_k, items_tup, evCbl, vl_len, List.append_nil, List.nil_append, List.cons_append, noX_k, List.length_cons, List.length_nil, setAll, optN_k, setS, nx_bind, rt_bind, endF_rt, endF_nx, wipeS, unS, evBin, evBlt, evCmp, boolR_bl, evL, evSlc, Int.toNat_natCast]
  have e := rot_vl (f := f) b1
  have hl := congrArg List.length e
  rw [vl_len] at hl
  rw [e, vl_len, if_pos (small_le (by omega))]
  have e2 : (fun i => f ((i + (n - t) % n) % n)) = tn n t f := funext fun i => by
    unfold tn
    rw [Nat.add_mod_mod]
  rw [e2]
  rfl
theorem m6 (hn : n ≤ 900) : evF T (k + 2) 6 [vt n f] st = .ok (.obj st.n) (st.push (.lst ((TL n f).map tupP))) := by
  show endF (evSs (evF T (k + 1)) f6.body [some (vt n f), none] st) = _
  simp only [f6, evSs, evS, evE, evT, evP, mkP, evEs, evO, evL_val, evL_disp, bind_k, thn_k, getS, okO_k, items_tup, evCbl, vl_len, List.append_nil, List.nil_append, List.cons_append, noX_k, List.length_cons, List.length_nil, setAll, optN_k, setS, nx_bind, rt_bind, endF_rt, endF_nx, wipeS, unS, evBin, evBlt, evCmp, boolR_bl]
  rw [evL_map (l := List.range n) (h := fun (i : Nat) => .int i) (g := fun (i : Nat) => vt n (tn n i f)) (evI_rng ?ha (by omega)) (by simp; omega) ?he]
  · rw [tl_eq]
    rfl
  case ha => simp only [evSs, evS, evE, evT, evP, mkP, evEs, evO, evL_val, evL_disp, bind_k, thn_k, getS, okO_k, items_tup, evCbl, vl_len, List.append_nil, List.nil_append, List.cons_append, noX_k, List.length_cons, List.length_nil, setAll, optN_k, setS, nx_bind, rt_bind, endF_rt, endF_nx, wipeS, unS, evBin, evBlt, evCmp, boolR_bl]
  case he =>
    intro i hi
    have hi := List.mem_range.mp hi
    simp only [evSs, evS, evE, evT, evP, mkP, evEs, evO, evL_val, evL_disp, bind_k, thn_k, getS, okO_k, items_tup, evCbl, vl_len, List.append_nil, List.nil_append, List.cons_append, noX_k, List.length_cons, List.length_nil, setAll, optN_k, setS, nx_bind, rt_bind, endF_rt, endF_nx, wipeS, unS, evBin, evBlt, evCmp, boolR_bl, m2 hi hn]
theorem tupsOf_map : ∀ (l : List (List Int)), tupsOf (l.map tupP) = some l
  | [] => rfl
  | a :: l => by
    have e : intsOf (a.map PV.int) = some a := by
      induction a with
      | nil => rfl
      | cons x a ih => simp only [List.map_cons, intsOf, ih]
    simp only [List.map_cons, tupP, tupsOf, e]
    rw [tupsOf_map l]
def Bd (n : Nat) (f : Nat → Int) : Prop := ∀ i, i < n → (f i).natAbs ≤ 50
theorem Bd.tn {t : Nat} (h : Bd n f) : Bd n (tn n t f) := fun i hi => h _ (Nat.mod_lt _ (by omega))
theorem Bd.mir (h : Bd n f) : Bd n (mir n f) := fun i hi => h _ (Nat.mod_lt _ (by omega))
theorem KL_bd (h : Bd n f) {z : List Int} (hz : z ∈ KL n f) : z.length = n ∧ ∀ i ∈ z, i.natAbs ≤ 50 := by
  obtain ⟨t, a, ht, ha, rfl⟩ := KL_vv hz
  refine ⟨vv_len _ _, fun i hi => ?_⟩
  unfold vv at hi
  obtain ⟨j, hj, rfl⟩ := List.mem_map.mp hi
  have hj := List.mem_range.mp hj
  rcases ha with rfl | rfl
  · exact h.tn j hj
  · exact h.mir.tn j hj
theorem KL_all (h : Bd n f) : allTups n (KL n f) = true := by
  unfold allTups
  rw [List.all_eq_true]
  intro z hz
  obtain ⟨e1, e2⟩ := KL_bd h hz
  simp only [Bool.and_eq_true, decide_eq_true_eq, List.all_eq_true]
  refine ⟨e1, fun i hi => ?_⟩
  have := e2 i hi
  omega
theorem KL_cons (h0 : 0 < n) : ∃ a l, KL n f = a :: l ∧ a.length = n := by
  cases e : KL n f with
  | nil =>
    have := KL_len n f
    rw [e] at this
    simp at this
    omega
  | cons a l =>
    refine ⟨a, l, rfl, ?_⟩
    obtain ⟨t, b, _, _, rfl⟩ := KL_vv (f := f) (z := a) (by rw [e]; exact List.mem_cons_self)
    exact vv_len _ _
theorem sset_KL {s : Src} (hs : isLst s = true) (hn : n ≤ 30) (h0 : 0 < n) (h : Bd n f) : sset (s, (KL n f).map tupP) st = .ok (.tmp, (ssort (KL n f)).map tupP) st := by
  obtain ⟨a, l, e, hl⟩ := KL_cons (f := f) h0
  have hlen := KL_len n f
  have hall := KL_all h
  unfold sset
  simp only [hs, tupsOf_map]
  rw [e] at hlen hall ⊢
  dsimp only
  rw [if_pos ⟨by omega, by omega, by rw [hl]; exact hall⟩]
  rfl
/-- the sorted kin: each once -/
theorem ks_nodup (h : Bd n f) : (ssort (KL n f)).Nodup := by
  have := ssort_pw (B := 1000000) (bS_all (KL_all h))
  exact this.imp fun h e => by rw [e] at h; omega
theorem ks_same (h : Bd n f) (hg : Bd n g) (q : kin n f g) : ssort (KL n g) = ssort (KL n f) := by
  refine pw_eq (r := cS 1000000) (ssort_pw (bS_all (KL_all hg))) (ssort_pw (bS_all (KL_all h))) fun z => ?_
  rw [mem_ssort, mem_ssort]
  exact KL_same q z
theorem ks_dvd (h : Bd n f) : (ssort (KL n f)).length ∣ n + n := KL_dvd (ks_nodup h) fun z => mem_ssort
theorem ks_cons (h0 : 0 < n) : ∃ a l, ssort (KL n f) = a :: l ∧ a ∈ KL n f := by
  cases e : ssort (KL n f) with
  | nil =>
    obtain ⟨a, l, e2, _⟩ := KL_cons (f := f) h0
    have : a ∈ ssort (KL n f) := mem_ssort.mpr (by rw [e2]; exact List.mem_cons_self)
    rw [e] at this
    cases this
  | cons a l => exact ⟨a, l, rfl, mem_ssort.mp (by rw [e]; exact List.mem_cons_self)⟩
theorem ks_len (hn : n ≤ 30) (h0 : 0 < n) (h : Bd n f) : (ssort (KL n f)).length ≤ 60 := by
  have := Nat.le_of_dvd (by omega) (ks_dvd h)
  omega
theorem m7 (hn : n ≤ 30) (h0 : 0 < n) (h : Bd n f) : ∃ st', evF T (k + 3) 7 [vt n f] st = .ok (.tup ((ssort (KL n f)).map tupP)) st' ∧ Ext st st' := by
  refine ⟨(st.push (.lst ((TL n f).map tupP))).push (.lst ((TL n (mir n f)).map tupP)), ?_, Ext.push.trans Ext.push⟩
  show endF (evSs (evF T (k + 2)) (.cons (.ret (.cbl .tuple (.sset (.disp (.star (.val (.call 6 (.cons (.slot 0) .nil) [])) (.star (.val (.call 6 (.cons (.call 3 (.cons (.slot 0) .nil) []) .nil) [])) .nil)))))) .nil) [some (vt n f)] st) = _
  have e1 : evL (evF T (k + 2)) (.disp (.star (.val (.call 6 (.cons (.slot 0) .nil) [])) (.star (.val (.call 6 (.cons (.call 3 (.cons (.slot 0) .nil) []) .nil) [])) .nil))) [some (vt n f)] st = .ok (.tmp, (KL n f).map tupP) ((st.push (.lst ((TL n f).map tupP))).push (.lst ((TL n (mir n f)).map tupP))) := by
    simp only [evSs, evS, evE, evT, evP, mkP, evEs, evO, evL_val, evL_disp, bind_k, thn_k, getS, okO_k, items_tup, evCbl, vl_len, List.append_nil, List.nil_append, List.cons_append, noX_k, List.length_cons, List.length_nil, setAll, optN_k, setS, nx_bind, rt_bind, endF_rt, endF_nx, wipeS, unS, evBin, evBlt, evCmp, boolR_bl, m6 (k := k) (show n ≤ 900 by omega), m3 (k := k + 1) (show n ≤ 900 by omega) h0]
    rw [items_obj Store.get_push_same]
    simp only [evSs, evS, evE, evT, evP, mkP, evEs, evO, evL_val, evL_disp, bind_k, thn_k, getS, okO_k, items_tup, evCbl, vl_len, List.append_nil, List.nil_append, List.cons_append, noX_k, List.length_cons, List.length_nil, setAll, optN_k, setS, nx_bind, rt_bind, endF_rt, endF_nx, wipeS, unS, evBin, evBlt, evCmp, boolR_bl, m6 (k := k) (show n ≤ 900 by omega)]
    rw [items_obj Store.get_push_same]
    simp only [evSs, evS, evE, evT, evP, mkP, evEs, evO, evL_val, evL_disp, bind_k, thn_k, getS, okO_k, items_tup, evCbl, vl_len, List.append_nil, List.nil_append, List.cons_append, noX_k, List.length_cons, List.length_nil, setAll, optN_k, setS, nx_bind, rt_bind, endF_rt, endF_nx, wipeS, unS, evBin, evBlt, evCmp, boolR_bl]
    rw [← List.map_append, List.length_map, show TL n f ++ TL n (mir n f) = KL n f from rfl, if_size (by rw [KL_len]; omega)]
  have e3 := ev_cbl (b := .tuple) ((ev_sset e1).trans (sset_KL rfl hn h0 h))
  rw [ss_rt (r := .nil) (s_ret e3)]
  rfl
end
end K32

namespace K32
open PySem L2 Ev Cyc
/-! ### the first step between two voices -/
def dP (z : List Int) : PyData := .tuple (z.map .int)
theorem toD_tupP {st : Store} {j : Nat} (z : List Int) : toD st (j + 1) (tupP z) = some (dP z) := by
  simp only [tupP, dP, toD]
  rw [mapO_map (d := fun i => PyData.int i) z fun a _ => by cases j <;> rfl]
theorem toDs_tupP {st : Store} {j : Nat} (l : List (List Int)) : mapO (toD st (j + 1)) (l.map tupP) = some (l.map dP) := mapO_map l fun a _ => toD_tupP a
theorem eqv_dP : ∀ (a b : List Int), PyData.eqv (dP a) (dP b) = decide (a = b) := by
  have : ∀ (a b : List Int), PyData.eqvAll (a.map .int) (b.map .int) = decide (a = b) := by
    intro a
    induction a with
    | nil => intro b; cases b <;> simp [PyData.eqvAll]
    | cons x a ih =>
      intro b
      cases b with
      | nil => simp [PyData.eqvAll]
      | cons y b =>
        simp only [List.map_cons, PyData.eqvAll, ih b, PyData.eqv]
        by_cases h : x = y
        · subst h; simp
        · simp [h]
  intro a b
  simp only [dP, PyData.eqv, this]
theorem inD_tup {st : Store} {p : Nat} {l : List (List Int)} {z : List Int} (h : st.get p = some (.lst (l.map tupP))) : inD (tupP z) (.obj p) st = some (decide (z ∈ l)) := by
  unfold inD
  rw [items_obj h]
  simp only [toD_tupP, toDs_tupP]
  congr 1
  rw [Bool.eq_iff_iff, List.any_eq_true, decide_eq_true_iff]
  constructor
  · rintro ⟨d, hd, e⟩
    obtain ⟨y, hy, rfl⟩ := List.mem_map.mp hd
    rw [eqv_dP, decide_eq_true_iff] at e
    subst e
    exact hy
  · intro hz
    exact ⟨dP z, List.mem_map.mpr ⟨z, hz, rfl⟩, by rw [eqv_dP]; simp⟩
theorem first_map (F : Nat → List Int) (z : List Int) : ∀ (m s : Nat), firstD (dP z) (((List.range' s m).map F).map dP) s = (List.range' s m).find? fun k => decide (F k = z)
  | 0, s => rfl
  | m + 1, s => by
    simp only [List.range'_succ, List.map_cons, firstD, eqv_dP, List.find?_cons]
    by_cases h : F s = z
    · simp [h]
    · simp only [h, decide_false, Bool.false_eq_true, if_false]
      exact first_map F z m (s + 1)
def fk (n : Nat) (f g : Nat → Int) : Option Nat := (List.range n).find? fun k => decide (vv n (tn n k f) = vv n g)
section
variable {k n : Nat} {f g : Nat → Int} {st : Store}
theorem fk_some {t : Nat} (h : fk n f g = some t) : t < n ∧ E n (tn n t f) g := by
  unfold fk at h
  have h1 := List.mem_of_find?_eq_some h
  have h2 := List.find?_some h
  exact ⟨List.mem_range.mp h1, vv_eq.mp (by simpa using h2)⟩
theorem fk_none (h : fk n f g = none) : ¬ Tk n f g := by
  unfold fk at h
  rw [List.find?_eq_none] at h
  rintro ⟨t, ht, e⟩
  exact h t (List.mem_range.mpr ht) (by simpa using vv_eq.mpr e)
theorem fk_mem : (vv n g ∈ TL n f) ↔ (fk n f g).isSome = true := by
  cases h : fk n f g with
  | none => simp [mem_TL, fk_none h]
  | some t =>
    obtain ⟨h1, h2⟩ := fk_some h
    simp [mem_TL]
    exact ⟨t, h1, h2⟩
def wT : PV := .str (PySem.Str.ofString "turned")
def wM : PV := .str (PySem.Str.ofString "mirrored")
def stp (n : Nat) (f g : Nat → Int) : PV := match fk n f g with
  | some t => .tup [wT, .int t]
  | none => (match fk n (mir n f) g with
    | some t => .tup [wM, .int t]
    | none => .non)
theorem idx_fk {p : Nat} (h : st.get p = some (.lst ((TL n f).map tupP))) {t : Nat} (ht : fk n f g = some t) : evIdx (.obj p) (vt n g) st = .ok (.int t) st := by
  rw [← tupP_vv]
  unfold evIdx
  simp only [h, toD_tupP, toDs_tupP]
  have e : firstD (dP (vv n g)) ((TL n f).map dP) 0 = some t := by
    unfold TL
    rw [List.range_eq_range', first_map, ← List.range_eq_range']
    exact ht
  rw [e]
def b8 : Ss := .cons (.ite (.cmp .isin (.slot 1) (.slot 3)) (.cons (.ret (.tupd (.cons (.slot 2) (.cons (.idx (.slot 3) (.slot 1)) .nil)))) .nil) .nil) .nil
theorem body8 {cf : Nat → List PV → Store → Res PV} {a : Nat → Int} {w x : PV} {p : Nat} (h : st.get p = some (.lst ((TL n a).map tupP))) :
    evSs cf b8 [some x, some (vt n g), some w, some (.obj p)] st = match fk n a g with
      | some t => .rt (.tup [w, .int t]) st
      | none => .nx [some x, some (vt n g), some w, some (.obj p)] st := by
  have hin : inD (vt n g) (.obj p) st = some ((fk n a g).isSome) := by
    rw [← tupP_vv, inD_tup h]
    congr 1
    rw [Bool.eq_iff_iff, decide_eq_true_iff]
    exact fk_mem
  have hl : lstP (.obj p) st = true := by simp only [lstP, h]
  cases e : fk n a g with
  | some t =>
    rw [e] at hin
    have c : evT cf (.cmp .isin (.slot 1) (.slot 3)) [some x, some (vt n g), some w, some (.obj p)] st = .ok true st := by
      simp only [evSs, evS, evE, evT, evP, mkP, evEs, evO, evL_val, evL_disp, bind_k, thn_k, getS, okO_k, items_tup, evCbl, vl_len, List.append_nil, List.nil_append, List.cons_append, noX_k, List.length_cons, List.length_nil, setAll, optN_k, setS, nx_bind, rt_bind, endF_rt, endF_nx, wipeS, unS, evBin, evBlt, evCmp, boolR_bl, hin, okB]
      rfl
    unfold b8
    rw [ss_rt (v := .tup [w, .int t]) (st' := st) ?_]
    rw [s_iteT c, ss_rt (s_ret ?_)]
    simp only [evSs, evS, evE, evT, evP, mkP, evEs, evO, evL_val, evL_disp, bind_k, thn_k, getS, okO_k, items_tup, evCbl, vl_len, List.append_nil, List.nil_append, List.cons_append, noX_k, List.length_cons, List.length_nil, setAll, optN_k, setS, nx_bind, rt_bind, endF_rt, endF_nx, wipeS, unS, evBin, evBlt, evCmp, boolR_bl, hl, idx_fk h e]
    rfl
  | none =>
    rw [e] at hin
    have c : evT cf (.cmp .isin (.slot 1) (.slot 3)) [some x, some (vt n g), some w, some (.obj p)] st = .ok false st := by
      simp only [evSs, evS, evE, evT, evP, mkP, evEs, evO, evL_val, evL_disp, bind_k, thn_k, getS, okO_k, items_tup, evCbl, vl_len, List.append_nil, List.nil_append, List.cons_append, noX_k, List.length_cons, List.length_nil, setAll, optN_k, setS, nx_bind, rt_bind, endF_rt, endF_nx, wipeS, unS, evBin, evBlt, evCmp, boolR_bl, hin, okB]
      rfl
    unfold b8
    rw [ss_nx (env' := [some x, some (vt n g), some w, some (.obj p)]) (st' := st) ?_]
    · rfl
    · rw [s_iteF c]
      rfl
theorem evI_tupX {cf : Nat → List PV → Store → Res PV} {env : Ev.Env} {st' : Store} {e : E} {xs : List PV} (ha : evE cf e env st = .ok (.tup xs) st') : evI cf (.seq (.val e)) env st = .ok (.st xs) st' := by
  simp only [evE] at ha
  simp only [evI, evL, ha, Res.bind, items, srcI]
def ee8 : E := .tupd (.cons (.tupd (.cons (.gco "TURNED" (.str (PySem.Str.ofString "turned"))) (.cons (.call 6 (.cons (.slot 0) .nil) []) .nil))) (.cons (.tupd (.cons (.gco "MIRRORED" (.str (PySem.Str.ofString "mirrored"))) (.cons (.call 6 (.cons (.call 3 (.cons (.slot 0) .nil) []) .nil) []) .nil))) .nil))
theorem m8 (hn : n ≤ 900) (h0 : 0 < n) : ∃ st', evF T (k + 3) 8 [vt n f, vt n g] st = .ok (stp n f g) st' ∧ Ext st st' := by
  generalize hS : (st.push (.lst ((TL n f).map tupP))).push (.lst ((TL n (mir n f)).map tupP)) = st2
  have g1 : st2.get st.n = some (.lst ((TL n f).map tupP)) := by
    rw [← hS, Store.get_push_ne (show st.n + 1 ≠ st.n by omega), Store.get_push_same]
  have g2 : st2.get (st.n + 1) = some (.lst ((TL n (mir n f)).map tupP)) := by rw [← hS]; exact Store.get_push_same (s := st.push (.lst ((TL n f).map tupP)))
  refine ⟨st2, ?_, by rw [← hS]; exact Ext.push.trans Ext.push⟩
  show endF (evSs (evF T (k + 2)) (.cons (.for [2, 3] false (.seq (.val ee8)) b8) (.cons (.ret (.lit .non)) .nil)) [some (vt n f), some (vt n g), none, none] st) = _
  have h1 : evE (evF T (k + 2)) ee8 [some (vt n f), some (vt n g), none, none] st = .ok (.tup [.tup [wT, .obj st.n], .tup [wM, .obj (st.n + 1)]]) st2 := by
    unfold ee8
    simp only [evSs, evS, evE, evT, evP, mkP, evEs, evO, evL_val, evL_disp, bind_k, thn_k, getS, okO_k, items_tup, evCbl, vl_len, List.append_nil, List.nil_append, List.cons_append, noX_k, List.length_cons, List.length_nil, setAll, optN_k, setS, nx_bind, rt_bind, endF_rt, endF_nx, wipeS, unS, evBin, evBlt, evCmp, boolR_bl, m6 (k := k) hn, m3 (k := k + 1) hn h0, if_size (show 0 + 1 + 1 ≤ 1000 by decide), hS]
    rfl
  have h2 : evS (evF T (k + 2)) (.for [2, 3] false (.seq (.val ee8)) b8) [some (vt n f), some (vt n g), none, none] st = forGo [2, 3] false (evSs (evF T (k + 2)) b8) [.tup [wT, .obj st.n], .tup [wM, .obj (st.n + 1)]] [some (vt n f), some (vt n g), none, none] st2 := s_for (evI_tupX h1)
  have B1 := body8 (cf := evF T (k + 2)) (x := vt n f) (w := wT) (g := g) g1
  have B2 := body8 (cf := evF T (k + 2)) (x := vt n f) (w := wM) (g := g) g2
  have h3 : forGo [2, 3] false (evSs (evF T (k + 2)) b8) [.tup [wT, .obj st.n], .tup [wM, .obj (st.n + 1)]] [some (vt n f), some (vt n g), none, none] st2 = (evSs (evF T (k + 2)) b8 [some (vt n f), some (vt n g), some wT, some (.obj st.n)] st2).turn fun e s => forGo [2, 3] false (evSs (evF T (k + 2)) b8) [.tup [wM, .obj (st.n + 1)]] e s := rfl
  rw [h3] at h2
  unfold stp
  cases e : fk n f g with
  | some t =>
    rw [e] at B1
    rw [B1] at h2
    rw [ss_rt (h2.trans rfl)]
    rfl
  | none =>
    rw [e] at B1
    rw [B1] at h2
    have h4 : forGo [2, 3] false (evSs (evF T (k + 2)) b8) [.tup [wM, .obj (st.n + 1)]] [some (vt n f), some (vt n g), some wT, some (.obj st.n)] st2 = (evSs (evF T (k + 2)) b8 [some (vt n f), some (vt n g), some wM, some (.obj (st.n + 1))] st2).turn fun e s => .nx e s := rfl
    have h5 : evS (evF T (k + 2)) (.for [2, 3] false (.seq (.val ee8)) b8) [some (vt n f), some (vt n g), none, none] st = forGo [2, 3] false (evSs (evF T (k + 2)) b8) [.tup [wM, .obj (st.n + 1)]] [some (vt n f), some (vt n g), some wT, some (.obj st.n)] st2 := h2.trans rfl
    rw [h4] at h5
    dsimp only
    cases e' : fk n (mir n f) g with
    | some t =>
      rw [e'] at B2
      rw [B2] at h5
      rw [ss_rt (h5.trans rfl)]
      rfl
    | none =>
      rw [e'] at B2
      rw [B2] at h5
      rw [ss_nx (h5.trans rfl)]
      rfl
theorem forGo_find {body : Ev.Env → Store → SR} {j : Nat} (p : Nat → Bool) (v : Nat → PV) (I : Ev.Env → Prop) : ∀ (l : List Nat) (env : Ev.Env), I env → (∀ i ∈ l, ∀ env, I env → (p i = true → body (setS (.int i) env j) st = .rt (v i) st) ∧ (p i = false → ∃ e, body (setS (.int i) env j) st = .nx e st ∧ I e)) →
    (match l.find? p with
      | some i => forGo [j] true body (l.map fun (i : Nat) => PV.int i) env st = .rt (v i) st
      | none => ∃ e, forGo [j] true body (l.map fun (i : Nat) => PV.int i) env st = .nx e st ∧ I e)
  | [], env, hi, _ => ⟨env, rfl, hi⟩
  | i :: l, env, hi, h => by
    obtain ⟨h1, h2⟩ := h i List.mem_cons_self env hi
    have e0 : forGo [j] true body ((i :: l).map fun (i : Nat) => PV.int i) env st = (body (setS (.int i) env j) st).turn fun e s => forGo [j] true body (l.map fun (i : Nat) => PV.int i) e s := rfl
    rw [List.find?_cons]
    cases hp : p i with
    | true =>
      simp only
      rw [e0, h1 hp]
      rfl
    | false =>
      simp only
      obtain ⟨e, b, hi2⟩ := h2 hp
      have ih := forGo_find p v I l e hi2 fun i hi' => h i (List.mem_cons_of_mem _ hi')
      have e1 : forGo [j] true body ((i :: l).map fun (i : Nat) => PV.int i) env st = forGo [j] true body (l.map fun (i : Nat) => PV.int i) e st := by rw [e0, b]; rfl
      rw [e1]
      exact ih
theorem all_vv {a b : Nat → Int} : ((List.range n).all fun i => a i == b i) = decide (vv n a = vv n b) := by
  rw [Bool.eq_iff_iff, decide_eq_true_iff, vv_eq, List.all_eq_true]
  exact ⟨fun h i hi => by simpa using h i (List.mem_range.mpr hi), fun h i hi => by simpa using h i (List.mem_range.mp hi)⟩
end
end K32

namespace K32
open PySem L2 Ev Cyc
section
variable {k n : Nat} {f g : Nat → Int} {st : Store}
theorem m22' {t : Nat} (ht : t < n) (hn : n ≤ 900) : evF T (k + 1) 22 [vt n f, .int t] st = .ok (vt n (tn n t f)) st := m22 ht hn (by omega)
def b27 (s : Nat) (w : PV) : Ss := .cons (.ite (.cmp .eq (.call 22 (.cons (.slot s) (.cons (.slot 3) .nil)) []) (.slot 1)) (.cons (.ret (.tupd (.cons (.lit w) (.cons (.slot 3) .nil)))) .nil) .nil) .nil
theorem loop27 {s : Nat} {a : Nat → Int} {w x y : PV} {z : Option PV} (hn : n ≤ 900) (hs : ∀ z, getS [some x, some (vt n g), some y, z] s = some (vt n a)) :
    match fk n a g with
      | some t => forGo [3] true (evSs (evF T (k + 1)) (b27 s w)) ((List.range n).map fun (i : Nat) => PV.int i) [some x, some (vt n g), some y, z] st = .rt (.tup [w, .int t]) st
      | none => ∃ e, forGo [3] true (evSs (evF T (k + 1)) (b27 s w)) ((List.range n).map fun (i : Nat) => PV.int i) [some x, some (vt n g), some y, z] st = .nx e st ∧ ∃ z, e = [some x, some (vt n g), some y, z] := by
  refine forGo_find (fun t => decide (vv n (tn n t a) = vv n g)) (fun t => .tup [w, .int t]) (fun e => ∃ z, e = [some x, some (vt n g), some y, z]) (List.range n) _ ⟨z, rfl⟩ ?_
  rintro i hi env ⟨z, rfl⟩
  have hi := List.mem_range.mp hi
  have c : evT (evF T (k + 1)) (.cmp .eq (.call 22 (.cons (.slot s) (.cons (.slot 3) .nil)) []) (.slot 1)) [some x, some (vt n g), some y, some (.int i)] st = .ok (decide (vv n (tn n i a) = vv n g)) st := by
    have := hs (some (.int i))
    simp only [evT, evP, mkP, evEs, this, okO_k, bind_k, getS, List.append_nil, m22' hi hn, noX_k, evCmp, eq_vt, okB, all_vv, boolR_bl]
  constructor
  · intro hp
    show evSs (evF T (k + 1)) (b27 s w) [some x, some (vt n g), some y, some (.int i)] st = _
    rw [hp] at c
    unfold b27
    rw [ss_rt (v := .tup [w, .int i]) (st' := st) ?_]
    rw [s_iteT c, ss_rt (s_ret ?_)]
    simp only [evSs, evS, evE, evT, evP, mkP, evEs, evO, evL_val, evL_disp, bind_k, thn_k, getS, okO_k, items_tup, evCbl, vl_len, List.append_nil, List.nil_append, List.cons_append, noX_k, List.length_cons, List.length_nil, setAll, optN_k, setS, nx_bind, rt_bind, endF_rt, endF_nx, wipeS, unS, evBin, evBlt, evCmp, boolR_bl]
    rfl
  · intro hp
    refine ⟨[some x, some (vt n g), some y, some (.int i)], ?_, ⟨_, rfl⟩⟩
    show evSs (evF T (k + 1)) (b27 s w) [some x, some (vt n g), some y, some (.int i)] st = _
    rw [hp] at c
    unfold b27
    rw [ss_nx (env' := [some x, some (vt n g), some y, some (.int i)]) (st' := st) ?_]
    · rfl
    · rw [s_iteF c]
      rfl
theorem m27 (hn : n ≤ 900) (h0 : 0 < n) : evF T (k + 2) 27 [vt n f, vt n g] st = .ok (stp n f g) st := by
  show endF (evSs (evF T (k + 1)) (.cons (.asg 2 (.call 21 (.cons (.slot 0) .nil) [])) (.cons (.for [3] true (.rng1 (.cbl .len (.val (.slot 0)))) (b27 0 wT)) (.cons (.for [3] true (.rng1 (.cbl .len (.val (.slot 0)))) (b27 2 wM)) (.cons (.ret (.lit .non)) .nil)))) [some (vt n f), some (vt n g), none, none] st) = _
  have h1 : evE (evF T (k + 1)) (.call 21 (.cons (.slot 0) .nil) []) [some (vt n f), some (vt n g), none, none] st = .ok (vt n (mir n f)) st := by
    simp only [evSs, evS, evE, evT, evP, mkP, evEs, evO, evL_val, evL_disp, bind_k, thn_k, getS, okO_k, items_tup, evCbl, vl_len, List.append_nil, List.nil_append, List.cons_append, noX_k, List.length_cons, List.length_nil, setAll, optN_k, setS, nx_bind, rt_bind, endF_rt, endF_nx, wipeS, unS, evBin, evBlt, evCmp, boolR_bl, m21 hn h0]
  rw [ss_nx (s_asg h1)]
  simp only [setS]
  have r : ∀ z, evI (evF T (k + 1)) (.rng1 (.cbl .len (.val (.slot 0)))) [some (vt n f), some (vt n g), some (vt n (mir n f)), z] st = .ok (.st ((List.range n).map fun (i : Nat) => PV.int i)) st := fun z => evI_rng (by simp only [evSs, evS, evE, evT, evP, mkP, evEs, evO, evL_val, evL_disp, bind_k, thn_k, getS, okO_k, items_tup, evCbl, vl_len, List.append_nil, List.nil_append, List.cons_append, noX_k, List.length_cons, List.length_nil, setAll, optN_k, setS, nx_bind, rt_bind, endF_rt, endF_nx, wipeS, unS, evBin, evBlt, evCmp, boolR_bl]) (by omega)
  have L1 := loop27 (k := k) (st := st) (s := 0) (a := f) (w := wT) (x := vt n f) (y := vt n (mir n f)) (g := g) (z := none) hn fun z => rfl
  unfold stp
  cases e : fk n f g with
  | some t =>
    rw [e] at L1
    dsimp only at L1
    rw [ss_rt ((s_for (r none)).trans L1)]
    rfl
  | none =>
    rw [e] at L1
    obtain ⟨env, L1, z, rfl⟩ := L1
    rw [ss_nx ((s_for (r none)).trans L1)]
    have L2 := loop27 (k := k) (st := st) (s := 2) (a := mir n f) (w := wM) (x := vt n f) (y := vt n (mir n f)) (g := g) (z := z) hn fun z => rfl
    dsimp only
    cases e' : fk n (mir n f) g with
    | some t =>
      rw [e'] at L2
      dsimp only at L2
      rw [ss_rt ((s_for (r z)).trans L2)]
      rfl
    | none =>
      rw [e'] at L2
      obtain ⟨env, L2, z, rfl⟩ := L2
      rw [ss_nx ((s_for (r _)).trans L2)]
      rfl
theorem m16 (hn : n ≤ 900) (h0 : 0 < n) : ∃ st', evF T (k + 5) 16 [vt n f, vt n g] st = .ok (stp n f g) st' ∧ Ext st st' := by
  obtain ⟨st', e, x⟩ := m8 (k := k + 1) (st := st) (f := f) (g := g) hn h0
  refine ⟨st', ?_, x⟩
  show endF (evSs (evF T (k + 4)) f16.body [some (vt n f), some (vt n g)] st) = _
  simp only [f16, evSs, evS, evE, evT, evP, mkP, evEs, evO, evL_val, evL_disp, bind_k, thn_k, getS, okO_k, items_tup, evCbl, vl_len, List.append_nil, List.nil_append, List.cons_append, noX_k, List.length_cons, List.length_nil, setAll, optN_k, setS, nx_bind, rt_bind, endF_rt, endF_nx, wipeS, unS, evBin, evBlt, evCmp, boolR_bl, m13 (k := k) hn h0, e]
theorem sub_tup0 {x : PV} {xs : List PV} : evSub (.tup (x :: xs)) (.int 0) st = .ok x st := by
  simp only [evSub, items, List.length_cons]
  rw [ixN_in (by decide) (by omega)]
  rfl
def kh (n : Nat) (f : Nat → Int) : List Int := ((ssort (KL n f)).head?).getD []
theorem kh_eq {a : List Int} {l : List (List Int)} (h : ssort (KL n f) = a :: l) : kh n f = a := by unfold kh; rw [h]; rfl
theorem m14 (hn : n ≤ 30) (h0 : 0 < n) (h : Bd n f) : ∃ st', evF T (k + 4) 14 [vt n f] st = .ok (tupP (kh n f)) st' ∧ Ext st st' := by
  obtain ⟨st', e, x⟩ := m7 (k := k) (st := st) hn h0 h
  obtain ⟨a, l, e2, _⟩ := ks_cons (f := f) h0
  refine ⟨st', ?_, x⟩
  show endF (evSs (evF T (k + 3)) f14.body [some (vt n f)] st) = _
  simp only [f14, evSs, evS, evE, evT, evP, mkP, evEs, evO, evL_val, evL_disp, bind_k, thn_k, getS, okO_k, items_tup, evCbl, vl_len, List.append_nil, List.nil_append, List.cons_append, noX_k, List.length_cons, List.length_nil, setAll, optN_k, setS, nx_bind, rt_bind, endF_rt, endF_nx, wipeS, unS, evBin, evBlt, evCmp, boolR_bl, e]
  rw [kh_eq e2, e2, List.map_cons, sub_tup0]
  rfl
theorem m15 (hn : n ≤ 30) (h0 : 0 < n) (h : Bd n f) : ∃ st', evF T (k + 4) 15 [vt n f] st = .ok (.int (ssort (KL n f)).length) st' ∧ Ext st st' := by
  obtain ⟨st', e, x⟩ := m7 (k := k) (st := st) hn h0 h
  refine ⟨st', ?_, x⟩
  show endF (evSs (evF T (k + 3)) f15.body [some (vt n f)] st) = _
  simp only [f15, evSs, evS, evE, evT, evP, mkP, evEs, evO, evL_val, evL_disp, bind_k, thn_k, getS, okO_k, items_tup, evCbl, vl_len, List.append_nil, List.nil_append, List.cons_append, noX_k, List.length_cons, List.length_nil, setAll, optN_k, setS, nx_bind, rt_bind, endF_rt, endF_nx, wipeS, unS, evBin, evBlt, evCmp, boolR_bl, e, List.length_map]
theorem m26 (hn : n ≤ 30) (h0 : 0 < n) (h : Bd n f) : ∃ st' p, evF T (k + 2) 26 [vt n f] st = .ok (.obj p) st' ∧ st'.get p = some (.lst ((ssort (KL n f)).map tupP)) ∧ p < st'.n ∧ Ext st st' := by
  show ∃ st' p, endF (evSs (evF T (k + 1)) f26.body [some (vt n f), none, none, none] st) = _ ∧ _
  have n9 : n ≤ 900 := by omega
  have h1 : evE (evF T (k + 1)) (.call 21 (.cons (.slot 0) .nil) []) [some (vt n f), none, none, none] st = .ok (vt n (mir n f)) st := by
    simp only [evSs, evS, evE, evT, evP, mkP, evEs, evO, evL_val, evL_disp, bind_k, thn_k, getS, okO_k, items_tup, evCbl, vl_len, List.append_nil, List.nil_append, List.cons_append, noX_k, List.length_cons, List.length_nil, setAll, optN_k, setS, nx_bind, rt_bind, endF_rt, endF_nx, wipeS, unS, evBin, evBlt, evCmp, boolR_bl, m21 n9 h0]
  have hc : ∀ (s : Nat) (a : Nat → Int) (y : Option PV) (st : Store), (∀ z, getS [some (vt n f), some (vt n (mir n f)), y, z] s = some (vt n a)) → evE (evF T (k + 1)) (.mk (.comp [3] [3] true (.rng1 (.cbl .len (.val (.slot 0)))) .nil (.call 22 (.cons (.slot s) (.cons (.slot 3) .nil)) []))) [some (vt n f), some (vt n (mir n f)), y, none] st = .ok (.obj st.n) (st.push (.lst ((TL n a).map tupP))) := by
    intro s a y st hs
    simp only [evE, evP, mkP]
    rw [evL_map (l := List.range n) (h := fun (i : Nat) => .int i) (g := fun (i : Nat) => vt n (tn n i a)) (evI_rng ?ha (by omega)) (by simp; omega) ?he]
    · rw [tl_eq]
      rfl
    case ha => simp only [evSs, evS, evE, evT, evP, mkP, evEs, evO, evL_val, evL_disp, bind_k, thn_k, getS, okO_k, items_tup, evCbl, vl_len, List.append_nil, List.nil_append, List.cons_append, noX_k, List.length_cons, List.length_nil, setAll, optN_k, setS, nx_bind, rt_bind, endF_rt, endF_nx, wipeS, unS, evBin, evBlt, evCmp, boolR_bl]
    case he =>
      intro i hi
      have hi := List.mem_range.mp hi
      have := hs (some (.int i))
      simp only [evE, evP, mkP, evEs, wipeS, unS, setS, this, okO_k, bind_k, getS, List.append_nil, m22' hi n9, noX_k]
  generalize hA : st.push (.lst ((TL n f).map tupP)) = sA
  have gA : sA.get st.n = some (.lst ((TL n f).map tupP)) := by rw [← hA]; exact Store.get_push_same
  have nA : sA.n = st.n + 1 := by rw [← hA]; rfl
  generalize hB : sA.push (.lst ((TL n (mir n f)).map tupP)) = sB
  have gB : sB.get (st.n + 1) = some (.lst ((TL n (mir n f)).map tupP)) := by rw [← hB, ← nA]; exact Store.get_push_same
  have gB2 : sB.get st.n = some (.lst ((TL n f).map tupP)) := by rw [← hB, Store.get_push_ne (by omega)]; exact gA
  generalize hC : sB.push (.lst ((KL n f).map tupP)) = sC
  have gC : sC.get sB.n = some (.lst ((KL n f).map tupP)) := by rw [← hC]; exact Store.get_push_same
  have xC : Ext st sC := by rw [← hC, ← hB, ← hA]; exact (Ext.push.trans Ext.push).trans Ext.push
  refine ⟨sC.push (.lst ((ssort (KL n f)).map tupP)), sC.n, ?_, Store.get_push_same, Nat.lt_succ_self _, xC.trans Ext.push⟩
  unfold f26
  have c1 := hc 0 f none st fun z => rfl
  have c2 := hc 1 (mir n f) (some (.obj st.n)) sA fun z => rfl
  rw [hA] at c1
  rw [hB, nA] at c2
  rw [ss_nx (s_asg h1)]
  simp only [setS]
  rw [ss_nx (s_asg c1)]
  simp only [setS]
  have e1 : evE (evF T (k + 1)) (.bin .add (.slot 2) (.mk (.comp [3] [3] true (.rng1 (.cbl .len (.val (.slot 0)))) .nil (.call 22 (.cons (.slot 1) (.cons (.slot 3) .nil)) [])))) [some (vt n f), some (vt n (mir n f)), some (.obj st.n), none] sA = .ok (.obj sB.n) sC := by
    rw [e_bin (x := .obj st.n) (st1 := sA) (by simp only [evSs, evS, evE, evT, evP, mkP, evEs, evO, evL_val, evL_disp, bind_k, thn_k, getS, okO_k, items_tup, evCbl, vl_len, List.append_nil, List.nil_append, List.cons_append, noX_k, List.length_cons, List.length_nil, setAll, optN_k, setS, nx_bind, rt_bind, endF_rt, endF_nx, wipeS, unS, evBin, evBlt, evCmp, boolR_bl]) c2]
    simp only [evBin, gB, gB2, List.length_map, TL_len]
    rw [if_size (by omega), ← List.map_append, show TL n f ++ TL n (mir n f) = KL n f from rfl]
    simp only [allocL, hC]
  have e2 : evL (evF T (k + 1)) (.val (.bin .add (.slot 2) (.mk (.comp [3] [3] true (.rng1 (.cbl .len (.val (.slot 0)))) .nil (.call 22 (.cons (.slot 1) (.cons (.slot 3) .nil)) []))))) [some (vt n f), some (vt n (mir n f)), some (.obj st.n), none] sA = .ok (.obj sB.n, (KL n f).map tupP) sC := by
    rw [evL_val, e1, bind_k, items_obj gC]
  have e3 := (ev_sset e2).trans (sset_KL (s := .obj sB.n) rfl hn h0 h)
  rw [ss_rt (v := .obj sC.n) (st' := sC.push (.lst ((ssort (KL n f)).map tupP))) (s_ret ?_)]
  · rfl
  · simp only [evE, evP, mkP]
    rw [e3]
    rfl
end
end K32

namespace K32
open PySem L2 Ev Cyc
section
variable {cf : Nat → List PV → Store → Res PV} {env : Ev.Env} {st st1 st2 : Store} {a b : E} {x y : PV} {r : Bool}
theorem t_orF (ha : evT cf a env st = .ok false st1) : evT cf (.or a b) env st = evT cf b env st1 := by
  show (evT cf a env st).bind _ = _
  rw [ha]
  rfl
theorem e_cmp {op : Cop} {z : PV} (ha : evE cf a env st = .ok x st1) (hb : evE cf b env st1 = .ok y st2) (hc : evCmp op x y st2 = .ok z st2) : evE cf (.cmp op a b) env st = .ok z st2 := by
  show (evE cf a env st).bind (fun x st1 => (evE cf b env st1).bind _) = _
  rw [ha, bind_k, hb, bind_k, hc]
theorem t_cmp {op : Cop} (ha : evE cf a env st = .ok x st1) (hb : evE cf b env st1 = .ok y st2) (hc : evCmp op x y st2 = .ok (.bl r) st2) : evT cf (.cmp op a b) env st = .ok r st2 := by
  show boolR (evE cf (.cmp op a b) env st) = _
  rw [e_cmp ha hb hc]
  rfl
theorem e_andT (ha : evE cf a env st = .ok (.bl true) st1) : evE cf (.and a b) env st = evE cf b env st1 := by
  show (evE cf a env st).bind _ = _
  rw [ha]
  rfl
theorem e_sub {z : PV} (ha : evE cf a env st = .ok x st1) (hb : evE cf b env st1 = .ok y st2) (hc : evSub x y st2 = .ok z st2) : evE cf (.sub a b) env st = .ok z st2 := by
  show (evE cf a env st).bind (fun x st1 => (evE cf b env st1).bind _) = _
  rw [ha, bind_k, hb, bind_k, hc]
theorem es_cons {es : Es} {vs : List PV} (ha : evE cf a env st = .ok x st1) (hb : evEs cf es env st1 = .ok vs st2) : evEs cf (.cons a es) env st = .ok (x :: vs) st2 := by
  show (evE cf a env st).bind (fun v st1 => (evEs cf es env st1).bind _) = _
  rw [ha, bind_k, hb, bind_k]
theorem es_nil : evEs cf .nil env st = .ok [] st := rfl
theorem e_call {i : Nat} {es : Es} {dfl vs : List PV} {v : PV} (ha : evEs cf es env st = .ok vs st1) (hb : cf i (vs ++ dfl) st1 = .ok v st2) : evE cf (.call i es dfl) env st = .ok v st2 := by
  show (evEs cf es env st).bind _ = _
  rw [ha, bind_k, hb]
  rfl
theorem ne_bl (b : Bool) : evCmp .ne (.bl b) (.bl b) st = .ok (.bl false) st := by
  simp only [evCmp, eqD, toD, PyData.eqv, beq_self_eq_true, Bool.not_true]
end
section
variable {k n : Nat} {f g : Nat → Int} {st : Store}
theorem stp_cases : (∃ t, t < n ∧ E n (tn n t f) g ∧ stp n f g = .tup [wT, .int t]) ∨ (¬ Tk n f g ∧ ∃ t, t < n ∧ E n (tn n t (mir n f)) g ∧ stp n f g = .tup [wM, .int t]) ∨ (¬ kin n f g ∧ stp n f g = .non) := by
  unfold stp
  cases h : fk n f g with
  | some t =>
    obtain ⟨h1, h2⟩ := fk_some h
    exact .inl ⟨t, h1, h2, rfl⟩
  | none =>
    refine .inr ?_
    have h1 := fk_none h
    cases h' : fk n (mir n f) g with
    | some t =>
      obtain ⟨h2, h3⟩ := fk_some h'
      exact .inl ⟨h1, t, h2, h3, rfl⟩
    | none =>
      have h2 := fk_none h'
      exact .inr ⟨fun q => q.elim h1 h2, rfl⟩
/-- to and fro by the same word -/
theorem stp_back : (¬ kin n f g ∧ stp n f g = .non ∧ stp n g f = .non) ∨ ∃ (w : PV) (a : Nat → Int) (t t' : Nat), kin n f g ∧ stp n f g = .tup [w, .int t] ∧ stp n g f = .tup [w, .int t'] ∧ t < n ∧ t' < n ∧ E n (tn n t' a) f ∧ (w = wT ∧ a = g ∨ w = wM ∧ a = mir n g) := by
  rcases stp_cases (n := n) (f := f) (g := g) with ⟨t, h1, h2, h3⟩ | ⟨h0, t, h1, h2, h3⟩ | ⟨h1, h2⟩
  · have q : Tk n f g := ⟨t, h1, h2⟩
    rcases stp_cases (n := n) (f := g) (g := f) with ⟨t', k1, k2, k3⟩ | ⟨k0, _⟩ | ⟨k1, _⟩
    · exact .inr ⟨wT, g, t, t', .inl q, h3, k3, h1, k1, k2, .inl ⟨rfl, rfl⟩⟩
    · exact absurd q.symm k0
    · exact absurd (.inl q.symm) k1
  · have q : Tk n (mir n f) g := ⟨t, h1, h2⟩
    rcases stp_cases (n := n) (f := g) (g := f) with ⟨t', k1, k2, k3⟩ | ⟨k0, t', k1, k2, k3⟩ | ⟨k1, _⟩
    · exact absurd (Tk.symm ⟨t', k1, k2⟩) h0
    · exact .inr ⟨wM, mir n g, t, t', .inr q, h3, k3, h1, k1, k2, .inr ⟨rfl, rfl⟩⟩
    · exact absurd (.inr q.flip) k1
  · rcases stp_cases (n := n) (f := g) (g := f) with ⟨t', k1, k2, k3⟩ | ⟨k0, t', k1, k2, k3⟩ | ⟨k1, k2⟩
    · exact absurd (kin.symm (.inl ⟨t', k1, k2⟩)) h1
    · exact absurd (kin.symm (.inr ⟨t', k1, k2⟩)) h1
    · exact .inl ⟨h1, h2, k2⟩
/-- as data -/
def dS (n : Nat) (f g : Nat → Int) : PyData := match stp n f g with
  | .tup [.str w, .int t] => .tuple [.str w, .int t]
  | _ => .none
theorem toD_w (j : Nat) : toD st j wT = some (.str (PySem.Str.ofString "turned")) ∧ toD st j wM = some (.str (PySem.Str.ofString "mirrored")) := by
  have e1 : PyData.strOk (PySem.Str.ofString "turned") = true := by decide +kernel
  have e2 : PyData.strOk (PySem.Str.ofString "mirrored") = true := by decide +kernel
  cases j <;> exact ⟨by simp only [wT, toD]; rw [if_pos e1], by simp only [wM, toD]; rw [if_pos e2]⟩
theorem dS_ok : toD st 59 (stp n f g) = some (dS n f g) ∧ (dS n f g).hasDict = false ∧ (n ≤ 30 → (dS n f g).showable = true ∧ szD (dS n f g) ≤ 3000) := by
  unfold dS
  rcases stp_cases (n := n) (f := f) (g := g) with ⟨t, h1, h2, h3⟩ | ⟨h0, t, h1, h2, h3⟩ | ⟨h1, h2⟩
  · rw [h3]
    refine ⟨?_, rfl, fun hn => ⟨?_, ?_⟩⟩
    · show (match mapO (toD st 58) [wT, .int t] with
        | some ds => some (PyData.tuple ds)
        | none => none) = _
      simp only [mapO, (toD_w (st := st) 58).1, toD]
      rfl
    · have := int_show (i := (t : Int)) (by omega)
      simp only [wT, PyData.showable, PyData.showableAll] at this ⊢
      rw [this]
      decide +kernel
    · simp only [wT, szD, szAll]
      decide +kernel
  · rw [h3]
    refine ⟨?_, rfl, fun hn => ⟨?_, ?_⟩⟩
    · show (match mapO (toD st 58) [wM, .int t] with
        | some ds => some (PyData.tuple ds)
        | none => none) = _
      simp only [mapO, (toD_w (st := st) 58).2, toD]
      rfl
    · have := int_show (i := (t : Int)) (by omega)
      simp only [wM, PyData.showable, PyData.showableAll] at this ⊢
      rw [this]
      decide +kernel
    · simp only [wM, szD, szAll]
      decide +kernel
  · rw [h2]
    exact ⟨rfl, rfl, fun _ => ⟨rfl, by decide⟩⟩
theorem dP_ok {z : List Int} (hl : z.length ≤ 30) (h : ∀ i ∈ z, i.natAbs ≤ 50) : (dP z).hasDict = false ∧ (dP z).showable = true ∧ szD (dP z) ≤ 60000 := by
  have e1 : ∀ z : List Int, PyData.hasDictAll (z.map PyData.int) = false := by
    intro z
    induction z with
    | nil => rfl
    | cons x z ih => simp only [List.map_cons, PyData.hasDictAll, ih, PyData.hasDict, Bool.or_self]
  have e2 : ∀ z : List Int, (∀ i ∈ z, i.natAbs ≤ 50) → PyData.showableAll (z.map PyData.int) = true := by
    intro z
    induction z with
    | nil => intro _; rfl
    | cons x z ih =>
      intro h
      have := h x List.mem_cons_self
      simp only [List.map_cons, PyData.showableAll, int_show (i := x) (by omega), ih fun i hi => h i (List.mem_cons_of_mem _ hi), Bool.and_self]
  have e3 : ∀ z : List Int, szAll (z.map PyData.int) = 1923 * z.length := by
    intro z
    induction z with
    | nil => rfl
    | cons x z ih => simp only [List.map_cons, szAll, szD, ih, List.length_cons]; omega
  refine ⟨by simp only [dP, PyData.hasDict, e1], by simp only [dP, PyData.showable, e2 z h], ?_⟩
  simp only [dP, szD, e3]
  omega
end
end K32

namespace K32
open PySem L2 Ev Cyc
section
variable {cf : Nat → List PV → Store → Res PV} {env env' : Ev.Env} {st st' : Store}
theorem s_par {is : List Nat} {es : Es} {vs : List PV} (h : evEs cf es env st = .ok vs st') (h2 : setAll is vs env = some env') : evS cf (.par is es) env st = .nx env' st' := by
  show (evEs cf es env st).thn env _ = _
  rw [h, thn_k, h2]
  rfl
theorem l_obj {i p : Nat} {xs : List PV} (h : getS env i = some (.obj p)) (hg : st.get p = some (.lst xs)) : evL cf (.val (.slot i)) env st = .ok (.obj p, xs) st := by
  rw [evL_val]
  simp only [evE, evP, mkP, h, okO_k, bind_k, items_obj hg]
theorem l_tup {i : Nat} {xs : List PV} (h : getS env i = some (.tup xs)) : evL cf (.val (.slot i)) env st = .ok (.tup, xs) st := by
  rw [evL_val]
  simp only [evE, evP, mkP, h, okO_k, bind_k, items_tup]
def isnR (neg : Bool) (x : PV) (st : Store) : Res PV := match x with
  | .non => .ok (.bl (!neg)) st
  | _ => .ok (.bl neg) st
theorem e_isn {neg : Bool} {a : Ev.E} {x : PV} (h : evE cf a env st = .ok x st') : evE cf (.isn neg a) env st = isnR neg x st' := by
  show (evE cf a env st).bind _ = _
  rw [h, bind_k]
  cases x <;> rfl
theorem t_of {a : E} {b : Bool} (hm : ∀ env st, evT cf a env st = boolR (evE cf a env st)) (h : evE cf a env st = .ok (.bl b) st') : evT cf a env st = .ok b st' := by
  rw [hm, h]
  rfl
theorem eq_tupP {x y : List Int} : evCmp .eq (tupP x) (tupP y) st = .ok (.bl (decide (x = y))) st := by
  have : eqD (tupP x) (tupP y) st = some (decide (x = y)) := by
    show (match toD st 60 (tupP x), toD st 60 (tupP y) with
      | some d, some e => some (PyData.eqv d e)
      | _, _ => none) = _
    rw [toD_tupP, toD_tupP]
    simp only [eqv_dP]
  simp only [evCmp, this, okB]
theorem eq_w : evCmp .eq wT wT st = .ok (.bl true) st ∧ evCmp .eq wM wT st = .ok (.bl false) st ∧ evCmp .eq wM wM st = .ok (.bl true) st := by
  have h := toD_w (st := st) 60
  have e1 : eqD wT wT st = some true := by
    show (match toD st 60 wT, toD st 60 wT with
      | some d, some e => some (PyData.eqv d e)
      | _, _ => none) = _
    rw [h.1]
    simp only [PyData.eqv, beq_self_eq_true]
  have e2 : eqD wM wT st = some false := by
    show (match toD st 60 wM, toD st 60 wT with
      | some d, some e => some (PyData.eqv d e)
      | _, _ => none) = _
    rw [h.1, h.2]
    simp only [PyData.eqv]
    decide +kernel
  have e3 : eqD wM wM st = some true := by
    show (match toD st 60 wM, toD st 60 wM with
      | some d, some e => some (PyData.eqv d e)
      | _, _ => none) = _
    rw [h.2]
    simp only [PyData.eqv, beq_self_eq_true]
  simp only [evCmp, e1, e2, e3, okB, and_self]
theorem sub_tup1 {x y : PV} {xs : List PV} : evSub (.tup (x :: y :: xs)) (.int 1) st = .ok y st := by
  simp only [evSub, items, List.length_cons]
  rw [ixN_in (by decide) (by omega)]
  rfl
theorem sub_obj0 {p : Nat} {x : PV} {xs : List PV} (h : st.get p = some (.lst (x :: xs))) : evSub (.obj p) (.int 0) st = .ok x st := sub_obj h (i := 0) (ixN_in (by decide) (by simp only [List.length_cons]; omega)) rfl
end
section
variable {k n : Nat} {f g : Nat → Int} {st : Store}
theorem kh_mem (h0 : 0 < n) : kh n f ∈ KL n f := by
  obtain ⟨a, l, e, h⟩ := ks_cons (f := f) h0
  rw [kh_eq e]
  exact h
theorem kh_iff (h0 : 0 < n) (bf : Bd n f) (bg : Bd n g) : kh n g = kh n f ↔ kin n f g := by
  constructor
  · intro e
    have h1 := kh_mem (f := f) h0
    have h2 := kh_mem (f := g) h0
    rw [e] at h2
    obtain ⟨t, a, _, _, z⟩ := KL_vv h1
    rw [z] at h1 h2
    exact (mem_KL.mp h1).trans (mem_KL.mp h2).symm
  · intro q
    unfold kh
    rw [ks_same bf bg q]
def V1 (p : Nat) (P : PV) (n : Nat) (f g : Nat → Int) (a b : Option PV) : Ev.Env := [some (vt n f), some (vt n g), some (.obj p), some P, a, b]
def t1 : E := .or (.rpr true (.slot 4) (.mk (.disp (.cons (.sub (.slot 2) (.lit (.int 0))) (.cons (.cbl .len (.val (.slot 2))) (.cons (.slot 3) .nil)))))) (.cmp .ne (.bin .mod (.bin .mul (.lit (.int 2)) (.cbl .len (.val (.slot 0)))) (.cbl .len (.val (.slot 2)))) (.lit (.int 0)))
def t2 : E := .or (.cmp .ne (.isn false (.slot 3)) (.cmp .notin (.slot 1) (.slot 2))) (.cmp .ne (.cmp .eq (.call 14 (.cons (.slot 1) .nil) []) (.sub (.slot 2) (.lit (.int 0)))) (.cmp .isin (.slot 1) (.slot 2)))
def t3 : E := .cmp .ne (.call 22 (.cons (.ite (.cmp .eq (.sub (.slot 5) (.lit (.int 0))) (.lit (.str (PySem.Str.ofString "turned")))) (.slot 1) (.call 21 (.cons (.slot 1) .nil) [])) (.cons (.sub (.slot 5) (.lit (.int 1))) .nil)) []) (.slot 0)
def t4 : E := .and (.isb false true (.call 18 (.cons (.slot 0) (.cons (.slot 1) .nil)) [])) (.and (.cmp .eq (.call 17 (.cons (.slot 0) .nil) []) (.call 17 (.cons (.slot 1) .nil) [])) (.cmp .eq (.sub (.slot 5) (.lit (.int 0))) (.sub (.slot 3) (.lit (.int 0)))))
theorem test1 {cf : Nat → List PV → Store → Res PV} {p o : Nat} (hn : n ≤ 30) (h0 : 0 < n) (bf : Bd n f) (gp : st.get p = some (.lst ((ssort (KL n f)).map tupP))) (hp : p < st.n) (go : st.get o = some (.lst [tupP (kh n f), .int (ssort (KL n f)).length, stp n f g])) :
    ∃ st', evT cf t1 (V1 p (stp n f g) n f g (some (.obj o)) none) st = .ok false st' ∧ Ext st st' := by
  generalize hV : V1 p (stp n f g) n f g (some (.obj o)) none = env
  obtain ⟨a, l, ea, _⟩ := ks_cons (f := f) h0
  have s2 : getS env 2 = some (.obj p) := by rw [← hV]; rfl
  have dd : ∀ st : Store, mapO (toD st 59) [tupP (kh n f), .int (ssort (KL n f)).length, stp n f g] = some [dP (kh n f), .int (ssort (KL n f)).length, dS n f g] := fun st => by
    simp only [mapO, toD_tupP, toD, dS_ok.1]
  have hm := KL_bd bf (kh_mem (f := f) h0)
  obtain ⟨p1, p2, p3⟩ := dP_ok (z := kh n f) (by omega) hm.2
  obtain ⟨q1, q2, q3⟩ := dS_ok (st := st) (n := n) (f := f) (g := g)
  obtain ⟨q3, q4⟩ := q3 hn
  have hlen := ks_len hn h0 bf
  have hb : evE cf (.mk (.disp (.cons (.sub (.slot 2) (.lit (.int 0))) (.cons (.cbl .len (.val (.slot 2))) (.cons (.slot 3) .nil))))) env st = .ok (.obj st.n) (st.push (.lst [tupP (kh n f), .int (ssort (KL n f)).length, stp n f g])) := by
    refine ev_lst (es_cons (e_sub (x := .obj p) (y := .int 0) (st1 := st) (by simp only [evE, evP, mkP, s2, okO_k]) rfl ?_) (es_cons (x := .int (ssort (KL n f)).length) (st1 := st) ?_ (es_cons (x := stp n f g) (by rw [← hV]; rfl) es_nil))) (by simp)
    · rw [ea, List.map_cons] at gp
      rw [sub_obj0 gp, kh_eq ea]
    · rw [ev_cbl (l_obj s2 gp)]
      simp only [evCbl, List.length_map]
  have hr := ev_rpr (neg := true) (cf := cf) (a := .slot 4) (env := env) (st := st) (st1 := st) (x := .obj o) (d := .list [dP (kh n f), .int (ssort (KL n f)).length, dS n f g]) (by rw [← hV]; rfl) (toD_lst go (dd st)) (by
      have := int_show (i := ((ssort (KL n f)).length : Int)) (by omega)
      simp only [PyData.showable, PyData.showableAll] at this ⊢
      rw [p2, q3, this]
      rfl) (by
      refine Nat.le_trans ?_ line_big
      simp only [szD, szAll]
      omega) (by
      simp only [PyData.hasDict, PyData.hasDictAll, p1, q2]
      rfl) hb (toD_lst Store.get_push_same (dd _))
  refine ⟨st.push (.lst [tupP (kh n f), .int (ssort (KL n f)).length, stp n f g]), ?_, Ext.push⟩
  unfold t1
  rw [t_orF (ev_test hr)]
  have x5 : Ext st (st.push (.lst [tupP (kh n f), .int (ssort (KL n f)).length, stp n f g])) := Ext.push
  generalize st.push (.lst [tupP (kh n f), .int (ssort (KL n f)).length, stp n f g]) = st5 at x5 ⊢
  have gp5 : st5.get p = some (.lst ((ssort (KL n f)).map tupP)) := (x5.get p hp).trans gp
  have dv := ks_dvd bf
  have lp : 0 < (ssort (KL n f)).length := by rw [ea]; simp
  have s0 : getS env 0 = some (vt n f) := by rw [← hV]; rfl
  refine t_cmp (x := .int 0) (y := .int 0) (st1 := st5) ?_ rfl rfl
  refine (e_bin (x := .int (2 * (n : Int))) (y := .int (ssort (KL n f)).length) (st1 := st5) (st2 := st5) ((e_bin (x := .int 2) (y := .int n) (st1 := st5) (st2 := st5) rfl ?_).trans ?_) ?_).trans ?_
  · rw [ev_cbl (l_tup s0)]
    simp only [evCbl, vl_len]
  · simp only [evBin]
    rw [if_pos (mul_ok (by decide))]
  · rw [ev_cbl (l_obj s2 gp5)]
    simp only [evCbl, List.length_map]
  · simp only [evBin]
    rw [if_pos (by omega)]
    have : (2 * (n : Int)) % ((ssort (KL n f)).length : Int) = 0 := by
      refine Int.emod_eq_zero_of_dvd ?_
      have e : (2 * (n : Int)) = ((n + n : Nat) : Int) := by omega
      rw [e]
      exact Int.natCast_dvd_natCast.mpr dv
    rw [this]
theorem test2 {p : Nat} {a : Option PV} {b : Bool} (hn : n ≤ 30) (h0 : 0 < n) (bf : Bd n f) (bg : Bd n g) (gp : st.get p = some (.lst ((ssort (KL n f)).map tupP))) (hp : p < st.n) (hb : kin n f g ↔ b = true) (hs : ∀ st : Store, isnR false (stp n f g) st = .ok (.bl (!b)) st) :
    ∃ st', evT (evF T (k + 5)) t2 (V1 p (stp n f g) n f g a none) st = .ok false st' ∧ Ext st st' := by
  generalize hV : V1 p (stp n f g) n f g a none = env
  have s2 : evE (evF T (k + 5)) (.slot 2) env = fun st => .ok (.obj p) st := by rw [← hV]; rfl
  have s1 : evE (evF T (k + 5)) (.slot 1) env = fun st => .ok (vt n g) st := by rw [← hV]; rfl
  have s3 : evE (evF T (k + 5)) (.slot 3) env = fun st => .ok (stp n f g) st := by rw [← hV]; rfl
  have hin : ∀ st : Store, st.get p = some (.lst ((ssort (KL n f)).map tupP)) → inD (vt n g) (.obj p) st = some b := fun st gp => by
    rw [← tupP_vv, inD_tup gp]
    congr 1
    rw [Bool.eq_iff_iff, decide_eq_true_iff, mem_ssort, mem_KL]
    exact hb
  obtain ⟨st6, e6, x6⟩ := m14 (k := k + 1) (st := st) hn h0 bg
  have gp6 : st6.get p = some (.lst ((ssort (KL n f)).map tupP)) := (x6.get p hp).trans gp
  refine ⟨st6, ?_, x6⟩
  unfold t2
  refine (t_orF (st1 := st) (t_cmp (x := .bl (!b)) (y := .bl (!b)) (st1 := st) ((e_isn (by rw [s3])).trans (hs st)) (e_cmp (by rw [s1]) (by rw [s2]) ?_) (ne_bl _))).trans (t_cmp (x := .bl b) (y := .bl b) (st1 := st6) (e_cmp (x := tupP (kh n g)) (y := tupP (kh n f)) (st1 := st6) (e_call (es_cons (by rw [s1]) es_nil) e6) (e_sub (by rw [s2]) rfl ?_) ?_) (e_cmp (by rw [s1]) (by rw [s2]) ?_) (ne_bl _))
  · simp only [evCmp, hin st gp]
  · obtain ⟨c, l, ea, _⟩ := ks_cons (f := f) h0
    rw [ea, List.map_cons] at gp6
    rw [sub_obj0 gp6, kh_eq ea]
  · have e : decide (kh n g = kh n f) = b := by
      rw [Bool.eq_iff_iff, decide_eq_true_iff, kh_iff h0 bf bg]
      exact hb
    rw [eq_tupP, e]
  · simp only [evCmp, hin st6 gp6, okB]
end
end K32

namespace K32
open PySem L2 Ev Cyc
section
variable {k n : Nat} {f g : Nat → Int} {st : Store}
theorem test3 {p t' : Nat} {P w : PV} {a : Nat → Int} {o : Option PV} (hn : n ≤ 30) (h0 : 0 < n) (ht : t' < n) (he : E n (tn n t' a) f) (hw : w = wT ∧ a = g ∨ w = wM ∧ a = mir n g) :
    evT (evF T (k + 5)) t3 (V1 p P n f g o (some (.tup [w, .int t']))) st = .ok false st := by
  generalize hV : V1 p P n f g o (some (.tup [w, .int t'])) = env
  have s0 : evE (evF T (k + 5)) (.slot 0) env = fun st => .ok (vt n f) st := by rw [← hV]; rfl
  have s1 : evE (evF T (k + 5)) (.slot 1) env = fun st => .ok (vt n g) st := by rw [← hV]; rfl
  have s5 : evE (evF T (k + 5)) (.slot 5) env = fun st => .ok (.tup [w, .int t']) st := by rw [← hV]; rfl
  have n9 : n ≤ 900 := by omega
  have c : evE (evF T (k + 5)) (.sub (.slot 5) (.lit (.int 0))) env st = .ok w st := e_sub (by rw [s5]) rfl sub_tup0
  have hi : evE (evF T (k + 5)) (.ite (.cmp .eq (.sub (.slot 5) (.lit (.int 0))) (.lit (.str (PySem.Str.ofString "turned")))) (.slot 1) (.call 21 (.cons (.slot 1) .nil) [])) env st = .ok (vt n a) st := by
    rcases hw with ⟨rfl, rfl⟩ | ⟨rfl, rfl⟩
    · rw [e_iteT (t_cmp (y := wT) c rfl eq_w.1), s1]
    · rw [e_iteF (t_cmp (y := wT) c rfl eq_w.2.1)]
      exact e_call (es_cons (by rw [s1]) es_nil) (m21 (k := k + 4) n9 h0)
  unfold t3
  refine t_cmp (x := vt n (tn n t' a)) (y := vt n f) (st1 := st) (e_call (es_cons hi (es_cons (x := .int t') (e_sub (by rw [s5]) rfl sub_tup1) es_nil)) (m22' (k := k + 4) ht n9)) (by rw [s0]) ?_
  simp only [evCmp, eq_vt, all_true he, Bool.not_true]
theorem test4 {p t t' : Nat} {w : PV} {o : Option PV} (hn : n ≤ 30) (h0 : 0 < n) (bf : Bd n f) (bg : Bd n g) (q : kin n f g) (hw : w = wT ∨ w = wM) :
    evE (evF T (k + 5)) t4 (V1 p (.tup [w, .int t]) n f g o (some (.tup [w, .int t']))) st = .ok (.bl true) st := by
  generalize hV : V1 p (.tup [w, .int t]) n f g o (some (.tup [w, .int t'])) = env
  have s0 : evE (evF T (k + 5)) (.slot 0) env = fun st => .ok (vt n f) st := by rw [← hV]; rfl
  have s1 : evE (evF T (k + 5)) (.slot 1) env = fun st => .ok (vt n g) st := by rw [← hV]; rfl
  have s3 : evE (evF T (k + 5)) (.slot 3) env = fun st => .ok (.tup [w, .int t]) st := by rw [← hV]; rfl
  have s5 : evE (evF T (k + 5)) (.slot 5) env = fun st => .ok (.tup [w, .int t']) st := by rw [← hV]; rfl
  have n9 : n ≤ 900 := by omega
  have ff : ∀ i, i < n → (f i).natAbs < 2 ^ 64 := fun i hi => by have := bf i hi; omega
  have gg : ∀ i, i < n → (g i).natAbs < 2 ^ 64 := fun i hi => by have := bg i hi; omega
  have h18 := m18 (k := k) (st := st) n9 h0 ff gg
  rw [all_true (echo_kin q)] at h18
  unfold t4
  have c1 : evE (evF T (k + 5)) (.isb false true (.call 18 (.cons (.slot 0) (.cons (.slot 1) .nil)) [])) env st = .ok (.bl true) st := by
    show (evE (evF T (k + 5)) (.call 18 (.cons (.slot 0) (.cons (.slot 1) .nil)) []) env st).bind _ = _
    rw [e_call (es_cons (by rw [s0]) (es_cons (by rw [s1]) es_nil)) h18]
    rfl
  rw [e_andT c1]
  have c2 : evE (evF T (k + 5)) (.cmp .eq (.call 17 (.cons (.slot 0) .nil) []) (.call 17 (.cons (.slot 1) .nil) [])) env st = .ok (.bl true) st := by
    refine e_cmp (e_call (es_cons (by rw [s0]) es_nil) (m17 (k := k) (st := st) n9 h0 ff)) (e_call (es_cons (by rw [s1]) es_nil) (m17 (k := k) (st := st) n9 h0 gg)) ?_
    simp only [evCmp, eq_vt, all_true (echo_kin q), okB]
  rw [e_andT c2]
  refine e_cmp (x := w) (y := w) (st1 := st) (e_sub (by rw [s5]) rfl sub_tup0) (e_sub (by rw [s3]) rfl sub_tup0) ?_
  rcases hw with rfl | rfl
  · exact eq_w.1
  · exact eq_w.2.2
theorem m29 (hn : n ≤ 30) (h0 : 0 < n) (bf : Bd n f) (bg : Bd n g) : ∃ st', evF T (k + 6) 29 [vt n f, vt n g] st = .ok (.bl true) st' ∧ Ext st st' := by
  have n9 : n ≤ 900 := by omega
  obtain ⟨sA, p, eA, gA, pA, xA⟩ := m26 (k := k + 3) (st := st) hn h0 bf
  have eB := m27 (k := k + 3) (st := sA) (f := f) (g := g) n9 h0
  obtain ⟨s1, e1, x1⟩ := m14 (k := k + 1) (st := sA) hn h0 bf
  obtain ⟨s2, e2, x2⟩ := m15 (k := k + 1) (st := s1) hn h0 bf
  obtain ⟨s3, e3, x3⟩ := m16 (k := k) (st := s2) (f := f) (g := g) n9 h0
  generalize hP : stp n f g = P at eB e3
  show ∃ st', endF (evSs (evF T (k + 5)) (.cons (.par [2, 3] (.cons (.call 26 (.cons (.slot 0) .nil) []) (.cons (.call 27 (.cons (.slot 0) (.cons (.slot 1) .nil)) []) .nil))) (.cons (.asg 4 (.mk (.disp (.cons (.call 14 (.cons (.slot 0) .nil) []) (.cons (.call 15 (.cons (.slot 0) .nil) []) (.cons (.call 16 (.cons (.slot 0) (.cons (.slot 1) .nil)) []) .nil)))))) (.cons (.ite t1 (.cons (.ret (.lit (.bl false))) .nil) .nil) (.cons (.ite t2 (.cons (.ret (.lit (.bl false))) .nil) .nil) (.cons (.ite (.isn false (.slot 3)) (.cons (.ret (.isn false (.call 16 (.cons (.slot 1) (.cons (.slot 0) .nil)) []))) .nil) .nil) (.cons (.asg 5 (.call 16 (.cons (.slot 1) (.cons (.slot 0) .nil)) [])) (.cons (.ite (.isn false (.slot 5)) (.cons (.ret (.lit (.bl false))) .nil) .nil) (.cons (.ite t3 (.cons (.ret (.lit (.bl false))) .nil) .nil) (.cons (.ret t4) .nil))))))))) [some (vt n f), some (vt n g), none, none, none, none] st) = _ ∧ _
  rw [ss_nx (s_par (env' := V1 p P n f g none none) (es_cons (e_call (es_cons rfl es_nil) eA) (es_cons (e_call (es_cons rfl (es_cons rfl es_nil)) eB) es_nil)) rfl)]
  rw [ss_nx (s_asg (ev_lst (es_cons (e_call (es_cons rfl es_nil) e1) (es_cons (e_call (es_cons rfl es_nil) e2) (es_cons (e_call (es_cons rfl (es_cons rfl es_nil)) e3) es_nil))) (by simp)))]
  generalize h4 : s3.push (.lst [tupP (kh n f), .int (ssort (KL n f)).length, P]) = s4
  have g4 : s4.get s3.n = some (.lst [tupP (kh n f), .int (ssort (KL n f)).length, P]) := by rw [← h4]; exact Store.get_push_same
  have x4 : Ext sA s4 := by rw [← h4]; exact ((x1.trans x2).trans x3).trans Ext.push
  have p4 : s4.get p = some (.lst ((ssort (KL n f)).map tupP)) := (x4.get p pA).trans gA
  have l4 : p < s4.n := Nat.lt_of_lt_of_le pA x4.le
  have hV4 : setS (.obj s3.n) (V1 p P n f g none none) 4 = V1 p P n f g (some (.obj s3.n)) none := rfl
  rw [hV4]
  rw [← hP] at g4
  obtain ⟨s5, e5, x5⟩ := test1 (cf := evF T (k + 5)) hn h0 bf p4 l4 g4
  rw [hP] at e5
  rw [ss_nx (env' := V1 p P n f g (some (.obj s3.n)) none) (st' := s5) (by rw [s_iteF e5]; rfl)]
  have p5 : s5.get p = some (.lst ((ssort (KL n f)).map tupP)) := (x5.get p l4).trans p4
  have l5 : p < s5.n := Nat.lt_of_lt_of_le l4 x5.le
  have x15 : Ext st s5 := (xA.trans x4).trans x5
  rcases stp_back (n := n) (f := f) (g := g) with ⟨q, q1, q2⟩ | ⟨w, a, t, t', q, q1, q2, ht, ht', he, hw⟩
  · obtain ⟨s6, e6, x6⟩ := test2 (k := k) (b := false) (a := some (.obj s3.n)) hn h0 bf bg p5 l5 ⟨fun w => absurd w q, fun w => by cases w⟩ (fun st => by rw [q1]; rfl)
    rw [hP] at e6
    rw [ss_nx (env' := V1 p P n f g (some (.obj s3.n)) none) (st' := s6) (by rw [s_iteF e6]; rfl)]
    obtain ⟨s7, e7, x7⟩ := m16 (k := k) (st := s6) (f := g) (g := f) n9 h0
    rw [q2] at e7
    have hPn : P = .non := hP.symm.trans q1
    subst hPn
    have c : evT (evF T (k + 5)) (.isn false (.slot 3)) (V1 p .non n f g (some (.obj s3.n)) none) s6 = .ok true s6 := rfl
    refine ⟨s7, ?_, (x15.trans x6).trans x7⟩
    rw [ss_rt (v := .bl true) (st' := s7) ?_]
    · rfl
    rw [s_iteT c, ss_rt (s_ret ?_)]
    exact (e_isn (e_call (es_cons rfl (es_cons rfl es_nil)) e7)).trans rfl
  · obtain ⟨s6, e6, x6⟩ := test2 (k := k) (b := true) (a := some (.obj s3.n)) hn h0 bf bg p5 l5 ⟨fun _ => rfl, fun _ => q⟩ (fun st => by rw [q1]; rfl)
    rw [hP] at e6
    rw [ss_nx (env' := V1 p P n f g (some (.obj s3.n)) none) (st' := s6) (by rw [s_iteF e6]; rfl)]
    obtain ⟨s7, e7, x7⟩ := m16 (k := k) (st := s6) (f := g) (g := f) n9 h0
    rw [q2] at e7
    have hPn : P = .tup [w, .int t] := hP.symm.trans q1
    subst hPn
    have c : evT (evF T (k + 5)) (.isn false (.slot 3)) (V1 p (.tup [w, .int t]) n f g (some (.obj s3.n)) none) s6 = .ok false s6 := rfl
    refine ⟨s7, ?_, (x15.trans x6).trans x7⟩
    rw [ss_nx (env' := V1 p (.tup [w, .int t]) n f g (some (.obj s3.n)) none) (st' := s6) (by rw [s_iteF c]; rfl)]
    rw [ss_nx (s_asg (e_call (es_cons rfl (es_cons rfl es_nil)) e7))]
    have hV5 : setS (.tup [w, .int t']) (V1 p (.tup [w, .int t]) n f g (some (.obj s3.n)) none) 5 = V1 p (.tup [w, .int t]) n f g (some (.obj s3.n)) (some (.tup [w, .int t'])) := rfl
    rw [hV5]
    have c5 : evT (evF T (k + 5)) (.isn false (.slot 5)) (V1 p (.tup [w, .int t]) n f g (some (.obj s3.n)) (some (.tup [w, .int t']))) s7 = .ok false s7 := rfl
    rw [ss_nx (env' := V1 p (.tup [w, .int t]) n f g (some (.obj s3.n)) (some (.tup [w, .int t']))) (st' := s7) (by rw [s_iteF c5]; rfl)]
    have c6 := test3 (k := k) (st := s7) (p := p) (P := .tup [w, .int t]) (o := some (.obj s3.n)) hn h0 ht' he hw
    rw [ss_nx (env' := V1 p (.tup [w, .int t]) n f g (some (.obj s3.n)) (some (.tup [w, .int t']))) (st' := s7) (by rw [s_iteF c6]; rfl)]
    rw [ss_rt (s_ret (test4 hn h0 bf bg q (hw.imp (·.1) (·.1))))]
    rfl
end
end K32

namespace K32
open PySem L2 Ev Cyc
theorem Fd.putI {o q : Nat} {st : Store} {cnt : Int} {ns : List Int} (F : Fd o st cnt) (hq : q ≠ o) : Fd o (st.put q (.lst (ns.map PV.int))) cnt := by
  obtain ⟨⟨s, cells, a, b, h1, h2, h3, h4, h5, h6⟩, lt, pos⟩ := F
  refine ⟨?_, lt, pos⟩
  have g1 : (st.put q (.lst (ns.map PV.int))).get o = some (.lst [.obj s, .int a, .int b, .int cnt]) := by rw [Store.get_put_ne hq]; exact h1
  by_cases e : q = s
  · subst e
    exact ⟨q, ns, a, b, g1, Store.get_put_same, h3, h4, h5, h6⟩
  · exact ⟨s, cells, a, b, g1, by rw [Store.get_put_ne e]; exact h2, h3, h4, h5, h6⟩
theorem vl_vv (n : Nat) (f : Nat → Int) : vl n f = (vv n f).map PV.int := by
  unfold vl vv
  rw [List.map_map]
  rfl
section
variable {cf : Nat → List PV → Store → Res PV} {env : Ev.Env} {st st1 st2 st3 st4 : Store}
theorem s_sets {o i e : Ev.E} {v x y : PV} (he : evE cf e env st = .ok v st1) (ho : evE cf o env st1 = .ok x st2) (hi : evE cf i env st2 = .ok y st3) (hs : evSet x y v st3 = .ok () st4) : evS cf (.sets o i e) env st = .nx env st4 := by
  show (evE cf e env st).thn env _ = _
  rw [he, thn_k, ho, thn_k, hi, thn_k, hs, thn_k]
theorem s_set2 {o i p j e : Ev.E} {v1 v2 x y x2 y2 : PV} {st5 st6 st7 : Store} (he : evE cf e env st = .ok (.tup [v1, v2]) st1) (ho : evE cf o env st1 = .ok x st2) (hi : evE cf i env st2 = .ok y st3) (hs : evSet x y v1 st3 = .ok () st4) (ho2 : evE cf p env st4 = .ok x2 st5) (hi2 : evE cf j env st5 = .ok y2 st6) (hs2 : evSet x2 y2 v2 st6 = .ok () st7) : evS cf (.set2 o i p j e) env st = .nx env st7 := by
  show (evE cf e env st).thn env _ = _
  rw [he, thn_k]
  dsimp only
  rw [ho, thn_k, hi, thn_k, hs, thn_k, ho2, thn_k, hi2, thn_k, hs2, thn_k]
theorem int_test {a : Ev.E} {i j : Int} (h : evE cf a env st = .ok (.int i) st) : evT cf (.cmp .eq a (.lit (.int j))) env st = .ok (i == j) st := t_cmp h rfl rfl
end
section
variable {k n : Nat} {f g : Nat → Int} {st : Store}
theorem set_vl {q : Nat} {h : Nat → Int} {m x : Int} (hg : st.get q = some (.lst (vl n h))) (m0 : 0 ≤ m) (m1 : m < n) : evSet (.obj q) (.int m) (.int x) st = .ok () (st.put q (.lst (vl n fun k => if k = m.toNat then x else h k))) := by
  rw [set_obj hg (i := m.toNat) (by rw [vl_len]; exact ixN_in m0 m1), put_vl]
theorem sub_vlo {q : Nat} {h : Nat → Int} {m : Int} (hg : st.get q = some (.lst (vl n h))) (m0 : 0 ≤ m) (m1 : m < n) : evSub (.obj q) (.int m) st = .ok (.int (h m.toNat)) st := sub_obj hg (i := m.toNat) (by rw [vl_len]; exact ixN_in m0 m1) (vl_at h (by omega))
def c28 : Ss := .cons (.ite (.or (.cmp .eq (.slot 2) (.lit (.int 2))) (.cmp .eq (.slot 2) (.lit (.int 3)))) (.cons (.sets (.slot 4) (.slot 5) (.bin .add (.sub (.slot 4) (.slot 5)) (.lit (.int 1)))) .nil) (.cons (.ite (.cmp .eq (.slot 2) (.lit (.int 4))) (.cons (.set2 (.slot 4) (.slot 5) (.slot 4) (.slot 6) (.tupd (.cons (.sub (.slot 4) (.slot 6)) (.cons (.sub (.slot 4) (.slot 5)) .nil)))) .nil) (.cons (.ite (.cmp .eq (.slot 2) (.lit (.int 5))) (.cons (.ret (.call 25 (.cons (.slot 0) (.cons (.slot 3) (.cons (.call 20 (.cons (.slot 0) (.cons (.lit (.int 5)) .nil)) []) .nil))) [])) .nil) .nil) .nil)) .nil)) (.cons (.ret (.cbl .tuple (.val (.slot 4)))) .nil)
theorem end28 {o q : Nat} {way u v cnt : Int} {h : Nat → Int} {x : PV} (hn : n ≤ 30) (h0 : 0 < n) (F : Fd o st cnt) (hc : cnt ≤ 100000) (hq : q ≠ o) (hg : st.get q = some (.lst (vl n h))) (hb : ∀ i, i < n → (h i).natAbs ≤ 49) (u0 : 0 ≤ u) (u1 : u < n) (v0 : 0 ≤ v) (v1 : v < n) :
    ∃ g st' cnt', endF (evSs (evF T (k + 2)) c28 [some (.obj o), some x, some (.int way), some (.int n), some (.obj q), some (.int u), some (.int v)] st) = .ok (vt n g) st' ∧ Bd n g ∧ Fd o st' cnt' ∧ cnt' ≤ cnt + 41 := by
  generalize hV : [some (.obj o), some x, some (.int way), some (.int n), some (.obj q), some (.int u), some (.int v)] = env
  have s0 : ∀ st, evE (evF T (k + 2)) (.slot 0) env st = .ok (.obj o) st := fun st => by rw [← hV]; rfl
  have s2 : ∀ st, evE (evF T (k + 2)) (.slot 2) env st = .ok (.int way) st := fun st => by rw [← hV]; rfl
  have s3 : ∀ st, evE (evF T (k + 2)) (.slot 3) env st = .ok (.int n) st := fun st => by rw [← hV]; rfl
  have s4 : ∀ st, evE (evF T (k + 2)) (.slot 4) env st = .ok (.obj q) st := fun st => by rw [← hV]; rfl
  have g4 : getS env 4 = some (.obj q) := by rw [← hV]; rfl
  have s5 : ∀ st, evE (evF T (k + 2)) (.slot 5) env st = .ok (.int u) st := fun st => by rw [← hV]; rfl
  have s6 : ∀ st, evE (evF T (k + 2)) (.slot 6) env st = .ok (.int v) st := fun st => by rw [← hV]; rfl
  have fin : ∀ (st : Store) (h : Nat → Int), st.get q = some (.lst (vl n h)) → endF (evSs (evF T (k + 2)) (.cons (.ret (.cbl .tuple (.val (.slot 4)))) .nil) env st) = .ok (vt n h) st := by
    intro st h hg
    rw [ss_rt (s_ret (v := vt n h) (st' := st) ?_)]
    · rfl
    · rw [ev_cbl (l_obj g4 hg)]
      rfl
  unfold c28
  have b0 : Bd n h := fun i hi => by have := hb i hi; omega
  by_cases w23 : (way == 2 || way == 3) = true
  · have c : evT (evF T (k + 2)) (.or (.cmp .eq (.slot 2) (.lit (.int 2))) (.cmp .eq (.slot 2) (.lit (.int 3)))) env st = .ok true st := by
      show (evT (evF T (k + 2)) (.cmp .eq (.slot 2) (.lit (.int 2))) env st).bind _ = _
      rw [int_test (s2 st), bind_k]
      cases e : (way == 2) with
      | true => rfl
      | false =>
        rw [e, Bool.false_or] at w23
        show evT (evF T (k + 2)) (.cmp .eq (.slot 2) (.lit (.int 3))) env st = _
        rw [int_test (s2 st), w23]
    have hs := s_sets (cf := evF T (k + 2)) (env := env) (st := st) (e := .bin .add (.sub (.slot 4) (.slot 5)) (.lit (.int 1))) (o := .slot 4) (i := .slot 5) ((e_bin (e_sub (s4 st) (s5 st) (sub_vlo hg u0 u1)) rfl).trans rfl) (s4 st) (s5 st) (set_vl hg u0 u1)
    refine ⟨fun k => if k = u.toNat then h u.toNat + 1 else h k, st.put q (.lst (vl n fun k => if k = u.toNat then h u.toNat + 1 else h k)), cnt, ?_, ?_, ?_, by omega⟩
    rotate_left
    · intro i hi
      show (if i = u.toNat then h u.toNat + 1 else h i).natAbs ≤ 50
      have := hb i hi
      have := hb u.toNat (by omega)
      split <;> omega
    · exact (by rw [vl_vv]; exact F.putI hq : Fd o (st.put q (.lst (vl n fun k => if k = u.toNat then h u.toNat + 1 else h k))) cnt)
    · rw [ss_nx (env' := env) (st' := st.put q (.lst (vl n fun k => if k = u.toNat then h u.toNat + 1 else h k))) ?_]
      · exact fin _ _ Store.get_put_same
      · rw [s_iteT c, ss_nx hs]
        rfl
  · have w23 : (way == 2 || way == 3) = false := by simpa using w23
    have c : evT (evF T (k + 2)) (.or (.cmp .eq (.slot 2) (.lit (.int 2))) (.cmp .eq (.slot 2) (.lit (.int 3)))) env st = .ok false st := by
      rw [Bool.or_eq_false_iff] at w23
      rw [t_orF (st1 := st) ((int_test (s2 st)).trans (by rw [w23.1])), int_test (s2 st), w23.2]
    by_cases w4 : (way == 4) = true
    · have c4 : evT (evF T (k + 2)) (.cmp .eq (.slot 2) (.lit (.int 4))) env st = .ok true st := by rw [int_test (s2 st), w4]
      generalize hA : st.put q (.lst (vl n fun k => if k = u.toNat then h v.toNat else h k)) = sA
      have gA : sA.get q = some (.lst (vl n fun k => if k = u.toNat then h v.toNat else h k)) := by rw [← hA]; exact Store.get_put_same
      have FA : Fd o sA cnt := by rw [← hA, vl_vv]; exact F.putI hq
      have hs := s_set2 (cf := evF T (k + 2)) (env := env) (st := st) (st1 := st) (e := .tupd (.cons (.sub (.slot 4) (.slot 6)) (.cons (.sub (.slot 4) (.slot 5)) .nil))) (o := .slot 4) (i := .slot 5) (p := .slot 4) (j := .slot 6) (v1 := .int (h v.toNat)) (v2 := .int (h u.toNat)) (by
          show (evEs (evF T (k + 2)) (.cons (.sub (.slot 4) (.slot 6)) (.cons (.sub (.slot 4) (.slot 5)) .nil)) env st).bind _ = _
          rw [es_cons (e_sub (s4 st) (s6 st) (sub_vlo hg v0 v1)) (es_cons (e_sub (s4 st) (s5 st) (sub_vlo hg u0 u1)) es_nil), bind_k]
          exact if_size (by simp) _ _) (s4 st) (s5 st) ((set_vl hg u0 u1).trans (by rw [hA])) (s4 sA) (s6 sA) (set_vl gA v0 v1)
      refine ⟨fun k => if k = v.toNat then h u.toNat else if k = u.toNat then h v.toNat else h k, sA.put q (.lst (vl n fun k => if k = v.toNat then h u.toNat else if k = u.toNat then h v.toNat else h k)), cnt, ?_, ?_, ?_, by omega⟩
      rotate_left
      · intro i hi
        show (if i = v.toNat then h u.toNat else if i = u.toNat then h v.toNat else h i).natAbs ≤ 50
        have := hb i hi
        have := hb u.toNat (by omega)
        have := hb v.toNat (by omega)
        repeat' split
        all_goals omega
      · exact (by rw [vl_vv]; exact FA.putI hq : Fd o (sA.put q (.lst (vl n fun k => if k = v.toNat then h u.toNat else if k = u.toNat then h v.toNat else h k))) cnt)
      · rw [ss_nx (env' := env) (st' := sA.put q (.lst (vl n fun k => if k = v.toNat then h u.toNat else if k = u.toNat then h v.toNat else h k))) ?_]
        · exact fin _ _ Store.get_put_same
        · rw [s_iteF c, ss_nx (env' := env) (st' := sA.put q (.lst (vl n fun k => if k = v.toNat then h u.toNat else if k = u.toNat then h v.toNat else h k))) ?_]
          · rfl
          · rw [s_iteT c4, ss_nx hs]
            rfl
    · have w4 : (way == 4) = false := by simpa using w4
      have c4 : evT (evF T (k + 2)) (.cmp .eq (.slot 2) (.lit (.int 4))) env st = .ok false st := by rw [int_test (s2 st), w4]
      by_cases w5 : (way == 5) = true
      · have c5 : evT (evF T (k + 2)) (.cmp .eq (.slot 2) (.lit (.int 5))) env st = .ok true st := by rw [int_test (s2 st), w5]
        obtain ⟨d, sB, eB, _, _, FB, _⟩ := drawn (k := k + 1) (b := 5) (args := .cons (.slot 0) (.cons (.lit (.int 5)) .nil)) (env := env) F (by omega) (by decide) (by decide) (es_cons (s0 st) (es_cons rfl es_nil))
        obtain ⟨f2, sC, c2, eC, V, FC, hC⟩ := m25 (k := k) (way := d) FB (by omega) h0 hn
        refine ⟨f2, sC, c2, ?_, fun i hi => by have := V.1 i hi; omega, FC, by omega⟩
        have r : evE (evF T (k + 2)) (.call 25 (.cons (.slot 0) (.cons (.slot 3) (.cons (.call 20 (.cons (.slot 0) (.cons (.lit (.int 5)) .nil)) []) .nil))) []) env st = .ok (vt n f2) sC := e_call (es_cons (s0 st) (es_cons (s3 st) (es_cons eB es_nil))) eC
        rw [ss_rt (v := vt n f2) (st' := sC) ?_]
        · rfl
        · rw [s_iteF c, ss_rt (v := vt n f2) (st' := sC) ?_]
          rw [s_iteF c4, ss_rt (v := vt n f2) (st' := sC) ?_]
          rw [s_iteT c5, ss_rt (s_ret r)]
      · have w5 : (way == 5) = false := by simpa using w5
        have c5 : evT (evF T (k + 2)) (.cmp .eq (.slot 2) (.lit (.int 5))) env st = .ok false st := by rw [int_test (s2 st), w5]
        refine ⟨h, st, cnt, ?_, b0, F, by omega⟩
        rw [ss_nx (env' := env) (st' := st) ?_]
        · exact fin _ _ hg
        · rw [s_iteF c, ss_nx (env' := env) (st' := st) ?_]
          · rfl
          · rw [s_iteF c4, ss_nx (env' := env) (st' := st) ?_]
            · rfl
            · rw [s_iteF c5]
              rfl
end
end K32

namespace K32
open PySem L2 Ev Cyc
section
variable {cf : Nat → List PV → Store → Res PV} {env : Ev.Env} {st st1 : Store}
theorem e_mklst {e : Ev.E} {xs : List PV} (h : evE cf e env st = .ok (.tup xs) st1) : evE cf (.mk (.lst (.val e))) env st = .ok (.obj st1.n) (st1.push (.lst xs)) := by
  have h1 : evL cf (.lst (.val e)) env st = .ok (.tmp, xs) st1 := by
    have h2 : evL cf (.val e) env st = .ok (.tup, xs) st1 := by rw [evL_val, h, bind_k, items_tup]
    show (evL cf (.val e) env st).bind _ = _
    rw [h2, bind_k]
  show (evL cf (.lst (.val e)) env st).bind _ = _
  rw [h1, bind_k]
  rfl
theorem e_tupd {es : Es} {vs : List PV} (h : evEs cf es env st = .ok vs st1) (hl : vs.length ≤ 1000) : evE cf (.tupd es) env st = .ok (.tup vs) st1 := by
  simp only [evE, evP, mkP]
  rw [h, bind_k, if_size hl]
theorem e_lenT {i n : Nat} {f : Nat → Int} (h : getS env i = some (vt n f)) : evE cf (.cbl .len (.val (.slot i))) env st = .ok (.int n) st := by
  rw [ev_cbl (l_tup h)]
  simp only [evCbl, vl_len]
theorem e_callI {i : Nat} {es : Es} {n t : Nat} {m : Int} {a : Nat → Int} {v : PV} {st2 : Store} (ha : evEs cf es env st = .ok [vt n a, .int m] st1) (hm : (t : Int) = m) (hb : cf i [vt n a, .int t] st1 = .ok v st2) : evE cf (.call i es []) env st = .ok v st2 := by
  subst hm
  exact e_call ha hb
end
section
variable {k n : Nat} {f g : Nat → Int} {st : Store}
theorem m28 {o : Nat} {cnt : Int} (hn : n ≤ 30) (h0 : 0 < n) (F : Fd o st cnt) (hc : cnt ≤ 90000) (bf : ∀ i, i < n → (f i).natAbs ≤ 49) : ∃ g st' cnt', evF T (k + 3) 28 [.obj o, vt n f] st = .ok (vt n g) st' ∧ Bd n g ∧ Fd o st' cnt' ∧ cnt' ≤ cnt + 50 := by
  show ∃ g st' cnt', endF (evSs (evF T (k + 2)) (.cons (.par [2, 3] (.cons (.call 20 (.cons (.slot 0) (.cons (.lit (.int 6)) .nil)) []) (.cons (.cbl .len (.val (.slot 1))) .nil))) (.cons (.asg 4 (.mk (.lst (.val (.call 22 (.cons (.ite (.cmp .isin (.slot 2) (.tupd (.cons (.lit (.int 1)) (.cons (.lit (.int 3)) .nil)))) (.call 21 (.cons (.slot 1) .nil) []) (.slot 1)) (.cons (.call 20 (.cons (.slot 0) (.cons (.slot 3) .nil)) []) .nil)) []))))) (.cons (.par [5, 6] (.cons (.call 20 (.cons (.slot 0) (.cons (.slot 3) .nil)) []) (.cons (.call 20 (.cons (.slot 0) (.cons (.slot 3) .nil)) []) .nil))) c28))) [some (.obj o), some (vt n f), none, none, none, none, none] st) = _ ∧ _
  obtain ⟨way, s1, e1, _, _, F1, _⟩ := drawn (k := k + 1) (b := 6) (args := .cons (.slot 0) (.cons (.lit (.int 6)) .nil)) (env := [some (.obj o), some (vt n f), none, none, none, none, none]) F (by omega) (by decide) (by decide) rfl
  rw [ss_nx (s_par (env' := [some (.obj o), some (vt n f), some (.int way), some (.int n), none, none, none]) (es_cons e1 (es_cons (e_lenT (n := n) (f := f) rfl) es_nil)) rfl)]
  have ht : evE (evF T (k + 2)) (.tupd (.cons (.lit (.int 1)) (.cons (.lit (.int 3)) .nil))) [some (.obj o), some (vt n f), some (.int way), some (.int n), none, none, none] s1 = .ok (.tup [.int 1, .int 3]) s1 := by
    exact e_tupd (es_cons (x := .int 1) (st1 := s1) rfl (es_cons (x := .int 3) rfl es_nil)) (by simp)
  obtain ⟨c, hc2⟩ : ∃ c, evT (evF T (k + 2)) (.cmp .isin (.slot 2) (.tupd (.cons (.lit (.int 1)) (.cons (.lit (.int 3)) .nil)))) [some (.obj o), some (vt n f), some (.int way), some (.int n), none, none, none] s1 = .ok c s1 := ⟨_, t_cmp (x := .int way) (st1 := s1) rfl ht rfl⟩
  obtain ⟨a, ea, ba⟩ : ∃ a, evE (evF T (k + 2)) (.ite (.cmp .isin (.slot 2) (.tupd (.cons (.lit (.int 1)) (.cons (.lit (.int 3)) .nil)))) (.call 21 (.cons (.slot 1) .nil) []) (.slot 1)) [some (.obj o), some (vt n f), some (.int way), some (.int n), none, none, none] s1 = .ok (vt n a) s1 ∧ ∀ i, i < n → (a i).natAbs ≤ 49 := by
    cases c with
    | true => exact ⟨mir n f, (e_iteT hc2).trans (e_call (es_cons (x := vt n f) rfl es_nil) (m21 (k := k + 1) (by omega) h0)), fun i hi => bf _ (Nat.mod_lt _ h0)⟩
    | false => exact ⟨f, (e_iteF hc2).trans rfl, bf⟩
  obtain ⟨t, s2, e2, t0, t1, F2, _⟩ := drawn (k := k + 1) (b := n) (args := .cons (.slot 0) (.cons (.slot 3) .nil)) (env := [some (.obj o), some (vt n f), some (.int way), some (.int n), none, none, none]) F1 (by omega) (by omega) (by omega) rfl
  have e3 := e_callI (i := 22) (t := t.toNat) (es_cons ea (es_cons e2 es_nil)) (Int.toNat_of_nonneg t0) (m22' (k := k + 1) (n := n) (f := a) (st := s2) (by omega) (by omega))
  rw [ss_nx (s_asg (e_mklst e3))]
  have F3 := F2.push (x := .lst (vl n (tn n t.toNat a)))
  have g3 : (s2.push (.lst (vl n (tn n t.toNat a)))).get s2.n = some (.lst (vl n (tn n t.toNat a))) := Store.get_push_same
  have n3 : s2.n < (s2.push (.lst (vl n (tn n t.toNat a)))).n := Nat.lt_succ_self _
  generalize s2.push (.lst (vl n (tn n t.toNat a))) = s3 at F3 g3 n3
  have hq : s2.n ≠ o := Nat.ne_of_gt F2.lt
  generalize s2.n = q at g3 n3 hq
  show ∃ g st' cnt', endF (evSs (evF T (k + 2)) (.cons (.par [5, 6] (.cons (.call 20 (.cons (.slot 0) (.cons (.slot 3) .nil)) []) (.cons (.call 20 (.cons (.slot 0) (.cons (.slot 3) .nil)) []) .nil))) c28) [some (.obj o), some (vt n f), some (.int way), some (.int n), some (.obj q), none, none] s3) = _ ∧ _
  obtain ⟨u, s4, e4, u0, u1, F4, K4⟩ := drawn (k := k + 1) (b := n) (args := .cons (.slot 0) (.cons (.slot 3) .nil)) (env := [some (.obj o), some (vt n f), some (.int way), some (.int n), some (.obj q), none, none]) F3 (by omega) (by omega) (by omega) rfl
  obtain ⟨v, s5, e5, v0, v1, F5, K5⟩ := drawn (k := k + 1) (b := n) (args := .cons (.slot 0) (.cons (.slot 3) .nil)) (env := [some (.obj o), some (vt n f), some (.int way), some (.int n), some (.obj q), none, none]) F4 (by omega) (by omega) (by omega) rfl
  rw [ss_nx (s_par (env' := [some (.obj o), some (vt n f), some (.int way), some (.int n), some (.obj q), some (.int u), some (.int v)]) (es_cons e4 (es_cons e5 es_nil)) rfl)]
  have g5 : s5.get q = some (.lst (vl n (tn n t.toNat a))) := ((K4.trans K5).get q n3 hq).trans g3
  obtain ⟨g, s6, c6, e6, b6, F6, h6⟩ := end28 (k := k) (way := way) (u := u) (v := v) (x := vt n f) hn h0 F5 (by omega) hq g5 (fun i hi => ba _ (Nat.mod_lt _ h0)) u0 u1 v0 v1
  exact ⟨g, s6, c6, e6, b6, F6, by omega⟩
def c30 : Ss := .cons (.asg 3 (.call 25 (.cons (.slot 1) (.cons (.bin .add (.lit (.int 1)) (.call 20 (.cons (.slot 1) (.cons (.lit (.int 12)) .nil)) [])) (.cons (.call 20 (.cons (.slot 1) (.cons (.lit (.int 5)) .nil)) []) .nil))) [])) (.cons (.ite (.or (.not (.call 29 (.cons (.slot 3) (.cons (.call 28 (.cons (.slot 1) (.cons (.slot 3) .nil)) []) .nil)) [])) (.not (.call 29 (.cons (.slot 3) (.cons (.slot 3) .nil)) []))) (.cons (.ret (.lit (.bl false))) .nil) .nil) .nil)
theorem e_callW {cf : Nat → List PV → Store → Res PV} {env : Ev.Env} {es : Es} {st1 st2 : Store} {x y v : PV} {m : Int} {t i : Nat} (ha : evEs cf es env st = .ok [x, .int m, y] st1) (hm : (t : Int) = m) (hb : cf i [x, .int t, y] st1 = .ok v st2) : evE cf (.call i es []) env st = .ok v st2 := by
  subst hm
  exact e_call ha hb
theorem t_call {cf : Nat → List PV → Store → Res PV} {env : Ev.Env} {es : Es} {d : List PV} {st1 : Store} {b : Bool} {i : Nat} (h : evE cf (.call i es d) env st = .ok (.bl b) st1) : evT cf (.call i es d) env st = .ok b st1 := by
  show boolR (evE cf (.call i es d) env st) = _
  rw [h]
  rfl
theorem t_not {cf : Nat → List PV → Store → Res PV} {env : Ev.Env} {a : Ev.E} {st1 : Store} {b : Bool} (h : evT cf a env st = .ok b st1) : evT cf (.not a) env st = .ok (!b) st1 := by
  show (evT cf a env st).bind _ = _
  rw [h, bind_k]
theorem lap {x a2 a3 : Option PV} {cnt : Int} (F : Fd 1 st cnt) (hc : cnt ≤ 10000) : ∃ b3 st' cnt', evSs (evF T (k + 6)) c30 [x, some (.obj 1), a2, a3] st = .nx [x, some (.obj 1), a2, b3] st' ∧ Fd 1 st' cnt' ∧ cnt' ≤ cnt + 1000 := by
  obtain ⟨w, s1, e1, w0, w1, F1, _⟩ := drawn (k := k + 5) (b := 12) (args := .cons (.slot 1) (.cons (.lit (.int 12)) .nil)) (env := [x, some (.obj 1), a2, a3]) F (by omega) (by decide) (by decide) rfl
  obtain ⟨d, s2, e2, d0, d1, F2, _⟩ := drawn (k := k + 5) (b := 5) (args := .cons (.slot 1) (.cons (.lit (.int 5)) .nil)) (env := [x, some (.obj 1), a2, a3]) F1 (by omega) (by decide) (by decide) rfl
  obtain ⟨f, s3, c3, e3, V, F3, h3⟩ := m25 (k := k + 4) (way := d) (w := (1 + w).toNat) F2 (by omega) (by omega) (by omega)
  have bf : ∀ i, i < (1 + w).toNat → (f i).natAbs ≤ 49 := fun i hi => by have := V.1 i hi; omega
  have ew : evE (evF T (k + 6)) (.bin .add (.lit (.int 1)) (.call 20 (.cons (.slot 1) (.cons (.lit (.int 12)) .nil)) [])) [x, some (.obj 1), a2, a3] st = .ok (.int (1 + w)) s1 := (e_bin rfl e1).trans rfl
  have e4 := e_callW (i := 25) (t := (1 + w).toNat) (es_cons (a := .slot 1) (x := .obj 1) (env := [x, some (.obj 1), a2, a3]) (st := st) (st1 := st) (cf := evF T (k + 6)) rfl (es_cons ew (es_cons e2 es_nil))) (Int.toNat_of_nonneg (by omega)) e3
  have n0 : 0 < (1 + w).toNat := by omega
  have n1 : (1 + w).toNat ≤ 30 := by omega
  generalize (1 + w).toNat = n at e4 bf n0 n1
  unfold c30
  rw [ss_nx (s_asg e4)]
  obtain ⟨g, s5, c5, e5, bg, F5, h5⟩ := m28 (k := k + 3) (st := s3) n1 n0 F3 (by omega) bf
  have bf' : Bd n f := fun i hi => by have := bf i hi; omega
  obtain ⟨s6, e6, x6⟩ := m29 (k := k) (st := s5) n1 n0 bf' bg
  obtain ⟨s7, e7, x7⟩ := m29 (k := k) (st := s6) n1 n0 bf' bf'
  have c1 : evT (evF T (k + 6)) (.or (.not (.call 29 (.cons (.slot 3) (.cons (.call 28 (.cons (.slot 1) (.cons (.slot 3) .nil)) []) .nil)) [])) (.not (.call 29 (.cons (.slot 3) (.cons (.slot 3) .nil)) []))) [x, some (.obj 1), a2, some (vt n f)] s3 = .ok false s7 := by
    have q1 : evE (evF T (k + 6)) (.call 29 (.cons (.slot 3) (.cons (.call 28 (.cons (.slot 1) (.cons (.slot 3) .nil)) []) .nil)) []) [x, some (.obj 1), a2, some (vt n f)] s3 = .ok (.bl true) s6 := e_call (es_cons (x := vt n f) rfl (es_cons (e_call (es_cons (x := .obj 1) rfl (es_cons (x := vt n f) rfl es_nil)) e5) es_nil)) e6
    have q2 : evE (evF T (k + 6)) (.call 29 (.cons (.slot 3) (.cons (.slot 3) .nil)) []) [x, some (.obj 1), a2, some (vt n f)] s6 = .ok (.bl true) s7 := e_call (es_cons (x := vt n f) rfl (es_cons (x := vt n f) rfl es_nil)) e7
    have r1 := t_call q1
    have r2 := t_call q2
    exact (t_orF (t_not r1)).trans (t_not r2)
  show ∃ b3 st' cnt', evSs (evF T (k + 6)) _ [x, some (.obj 1), a2, some (vt n f)] s3 = _ ∧ _
  rw [ss_nx (env' := [x, some (.obj 1), a2, some (vt n f)]) (st' := s7) (by rw [s_iteF c1]; rfl)]
  exact ⟨_, s7, c5, rfl, (F5.ext x6).ext x7, by omega⟩
theorem m30 (ns : List Int) : ∃ st', evF T (k + 7) 30 [.rol (ns.map PV.int)] Store.empty = .ok (.bl true) st' := by
  show ∃ st', endF (evSs (evF T (k + 6)) (.cons (.asg 1 (.call 19 (.cons (.slot 0) .nil) [])) (.cons (.for [2] true (.rng1 (.lit (.int 5))) c30) (.cons (.ret (.lit (.bl true))) .nil))) [some (.rol (ns.map PV.int)), none, none, none] Store.empty) = _
  obtain ⟨st1, e1, F1⟩ := m19 (k := k + 5) (ns := ns)
  rw [ss_nx (env' := [some (.rol (ns.map PV.int)), some (.obj 1), none, none]) (st' := st1) (s_asg (v := .obj 1) (e_call (es_cons (x := .rol (ns.map PV.int)) rfl es_nil) e1))]
  have h := forGo_inv (tg := [2]) (one := true) (body := evSs (evF T (k + 6)) c30) (fun i env s => (∃ a2 a3, env = [some (.rol (ns.map PV.int)), some (.obj 1), a2, a3]) ∧ ∃ c : Int, Fd 1 s c ∧ c ≤ 1000 * i) 5 0 [some (.rol (ns.map PV.int)), some (.obj 1), none, none] st1 ?step ⟨⟨_, _, rfl⟩, 0, F1, by decide⟩
  case step =>
    rintro i _ hi env s ⟨⟨a2, a3, rfl⟩, c, F, hc⟩
    obtain ⟨b3, st', c', e, F', h'⟩ := lap (k := k) (x := some (.rol (ns.map PV.int))) (a2 := some (.int i)) (a3 := a3) F (by omega)
    exact ⟨_, _, st', rfl, e, ⟨_, _, rfl⟩, c', F', by omega⟩
  obtain ⟨env', st', e, ⟨a2, a3, rfl⟩, _⟩ := h
  rw [ss_nx ((s_for (evI_rng (m := 5) rfl (by decide))).trans (by rw [List.range_eq_range']; exact e))]
  exact ⟨st', rfl⟩
end
theorem says : ∀ ns : List Int, ns.length ≤ 63 → ∃ st, evF T 12 30 [.rol (ns.map PV.int)] Store.empty = .ok (.bl true) st := fun ns _ => m30 (k := 5) ns
end K32

open PySem PySem.W PySem.Calls PyProof.Rows
theorem PySem.Challenge.cw_silentbeats_k32_whole_kin_by_all_turns_holds : PySem.Challenge.rw_silentbeats_k32_whole_kin_by_all_turns.Holds := by
  w_on; o_law
  refine HandSHeadRun.head_any (r := OpenLaw.row PySem.Challenge.rw_silentbeats_k32_whole_kin_by_all_turns) (q := view (OpenLaw.row PySem.Challenge.rw_silentbeats_k32_whole_kin_by_all_turns).prog [43]) (H := K32.hk) (ob := K32.ob) (M := 4000) (loose := K32.loose) (d := HandSHeadRun.topDef (OpenLaw.row PySem.Challenge.rw_silentbeats_k32_whole_kin_by_all_turns).prog 43) (kwd := []) K32.ob_eq
    (by kernel_rfl) (fun s => by kernel_rfl) K32.run (by kernel_rfl) (by kernel_rfl) (by kernel_rfl) (by rfl) (by first | assumption | decide +kernel) (by decide +kernel) ⟨rfl, rfl, rfl, rfl, rfl, by decide +kernel⟩ ?hw ?hc
  case hw => w_witness2
  case hc =>
    refine Ev.walk_G (l := PySem.Challenge.rw_silentbeats_k32_whole_kin_by_all_turns) (n := 63) (k := 12) (x := "_law_script") rfl (by decide) (by kernel_rfl) ⟨rfl, by decide, by decide⟩ ?F
    intro w mg fa h Y G hmg0
    obtain ⟨K, KX, c⟩ := Y
    have hmg : mg ("law" : PySem.Str) = some (.ref fa) := by
      have e : (HandSHeadRun.topDef (OpenLaw.row PySem.Challenge.rw_silentbeats_k32_whole_kin_by_all_turns).prog 43).name = ("law" : PySem.Str) := by kernel_rfl
      rw [← e]
      exact hmg0
    obtain ⟨fd, hb, hF⟩ := K32.facts (P := (PySem.Challenge.rw_silentbeats_k32_whole_kin_by_all_turns).prog) (w := w) KX G hmg c
    exact ⟨K, fd, _, KX, hb, K32.says, fun base _ _ => hF base⟩

