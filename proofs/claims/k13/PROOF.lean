import PyProof.Rows.All
import Wide.All
import OpenK.AllK
import Wide.FinOn
import PySem.Builtin.Str.Common
import HandS.ForMost
import HandS.ForExc
import HandS.CallSlots
import HandS.ExcCtx
import HandS.Deep
import HandS.TupAny
import HandS.Style
import HandS.Flow
import HandS.IsInst
import PyProof.Rows.TmSorted
import HandS.SortRule
import HandS.TupLe
import HandS.Strs
import KE.KSortTupAny
import HandS.ExcField
import HandS.ExcIs
import HandS.More
import HandS.SortKw
import HandS.Small
import HandS.ExcOwn
import HandS.HeadHook1
import PyProof.ExcBaseAll.ValueError
import HandS.ExcInit
import HandS.Nested
import KE.KExcSuper
import KE.KSuper
import HandS.HeadWalk
import HandS.Hot
import HandS.Head2
import HandS.SetTxt0
import HandS.SetFor
import HandS.Defaults
import HandS.HeadHook4
import HandS.HeadEnd
import PySem.Challenge.RW_soundborder_k13_known_designs
set_option autoImplicit false
namespace Py

abbrev Key := Sum Int String

/-- a value: data that never changes is held as it is; what changes stands in the heap at a number -/
inductive W where
  | non | bl (b : Bool) | int (i : Int) | str (s : String)
  | tup (xs : List W) | lst (xs : List W) | ref (n : Nat) | scr (ns : List Int)
  deriving Inhabited
/-- an object that changes: a list, a dict, an instance of a class with its fields -/
inductive MO where
  | lst (xs : List W) | dic (kvs : List (Key × W)) | ins (c : Nat) (fs : List (Nat × W))
  /-- a dict that a loop walks: nobody writes it -/
  | fdic (kvs : List (Key × W))
  deriving Inhabited
abbrev MH := List MO
abbrev Env := List (Option W)

inductive Res (α : Type) where
  | ok (a : α) (h : MH) | exc (c : Nat) (fs : List (Nat × W)) (h : MH) | bad
/-- no exception comes through -/
def Res.fin {α β : Type} (r : Res α) (f : α → MH → Res β) : Res β := match r with
  | .ok a h => f a h
  | _ => .bad
def Res.bind {α β : Type} (r : Res α) (f : α → MH → Res β) : Res β := match r with
  | .ok a h => f a h
  | .exc c fs h => .exc c fs h
  | .bad => .bad
@[simp] theorem Res.bind_ok {α β : Type} (a : α) (h : MH) (f : α → MH → Res β) : (Res.ok a h).bind f = f a h := rfl
@[simp] theorem Res.bind_exc {α β : Type} (c : Nat) (fs : List (Nat × W)) (h : MH) (f : α → MH → Res β) : (Res.exc c fs h).bind f = .exc c fs h := rfl
@[simp] theorem Res.bind_bad {α β : Type} (f : α → MH → Res β) : (Res.bad).bind f = .bad := rfl
theorem Res.bind_assoc {α β γ : Type} (r : Res α) (f : α → MH → Res β) (g : β → MH → Res γ) : (r.bind f).bind g = r.bind fun a h => (f a h).bind g := by
  cases r <;> rfl
/-- an operation that stands or does not -/
def lift {α : Type} (o : Option α) (h : MH) : Res α := match o with
  | some a => .ok a h
  | none => .bad
@[simp] theorem lift_some {α : Type} (a : α) (h : MH) : lift (some a) h = .ok a h := rfl
@[simp] theorem lift_none {α : Type} (h : MH) : lift (none : Option α) h = .bad := rfl

inductive Out where
  | nx (e : Env) (h : MH) | rt (w : W) (h : MH) | ex (c : Nat) (fs : List (Nat × W)) (e : Env) (h : MH) | bad

def LIM : Nat := 16777216

mutual
def W.eqv : W → W → Bool
  | .non, .non => true
  | .bl a, .bl b => a == b
  | .bl a, .int j => (if a then 1 else 0) == j
  | .int i, .bl b => i == (if b then 1 else 0)
  | .int i, .int j => i == j
  | .str x, .str y => x == y
  | .lst xs, .lst ys => eqvAll xs ys
  | .tup xs, .tup ys => eqvAll xs ys
  | _, _ => false
def eqvAll : List W → List W → Bool
  | [], [] => true
  | x :: xs, y :: ys => x.eqv y && eqvAll xs ys
  | _, _ => false
end
mutual
/-- no number of the heap within -/
def W.pure : W → Bool
  | .ref _ => false
  | .scr _ => false
  | .tup xs => pureAll xs
  | .lst xs => pureAll xs
  | _ => true
def pureAll : List W → Bool
  | [] => true
  | x :: xs => x.pure && pureAll xs
end
mutual
def W.depth : W → Nat
  | .tup xs => depthAll xs + 1
  | .lst xs => depthAll xs + 1
  | _ => 0
def depthAll : List W → Nat
  | [] => 0
  | x :: xs => max x.depth (depthAll xs)
end
/-- a list that changes, as it stands -/
def deref (h : MH) : W → W
  | .ref n => match h[n]? with
    | some (.lst xs) => .lst xs
    | _ => .ref n
  | w => w
def wEq (h : MH) (a b : W) : Option Bool :=
  let x := deref h a
  let y := deref h b
  if x.pure && y.pure && decide (min x.depth y.depth ≤ 64) then some (x.eqv y) else none

def isPre : List Char → List Char → Bool
  | [], _ => true
  | _ :: _, [] => false
  | a :: as, b :: bs => a == b && isPre as bs
def S (s : String) : PySem.Str := PySem.Str.ofString s
/-- a text of more than one sign in another -/
def occS (p t : String) : Bool := !(PySem.Builtin.Str.occurrences (S t) (S p) 0 (S t).length 1).isEmpty
def splitC (c : Char) : List Char → List (List Char)
  | [] => [[]]
  | x :: xs => if x = c then [] :: splitC c xs else match splitC c xs with
    | [] => [[x]]
    | l :: ls => (x :: l) :: ls
def isDig (c : Char) : Bool := decide ('0' ≤ c ∧ c ≤ '9')
def digs (acc : Nat) : List Char → Nat
  | [] => acc
  | c :: cs => digs (acc * 10 + (c.toNat - 48)) cs
def joinL (sep : String) : List String → String
  | [] => ""
  | [x] => x
  | x :: y :: r => x ++ sep ++ joinL sep (y :: r)
def strsOf : List W → Option (List String)
  | [] => some []
  | .str s :: r => (strsOf r).map (s :: ·)
  | _ :: _ => none
def intsOf : List W → Option (List Int)
  | [] => some []
  | .int s :: r => (intsOf r).map (s :: ·)
  | _ :: _ => none
def blsOf : List W → Option (List Bool)
  | [] => some []
  | .bl s :: r => (blsOf r).map (s :: ·)
  | _ :: _ => none

def ixN (n : Nat) (i : Int) : Option Nat := if 0 ≤ i then (if i < n then some i.toNat else none) else if -(n : Int) ≤ i then some (i + n).toNat else none
def atI {α : Type} (xs : List α) (i : Int) : Option α := (ixN xs.length i).bind fun j => xs[j]?
/-- a slice's bound -/
def sIx (n d : Nat) : Option Int → Nat
  | none => d
  | some v => if v < 0 then (v + (n : Int)).toNat else min v.toNat n
def cut {α : Type} (xs : List α) (lo hi : Option Int) : List α := (xs.drop (sIx xs.length 0 lo)).take (sIx xs.length xs.length hi - sIx xs.length 0 lo)

def keyW : Key → W
  | .inl i => .int i
  | .inr s => .str s
def keyOf : W → Option Key
  | .int i => some (.inl i)
  | .str s => some (.inr s)
  | _ => none
def dGet (k : Key) : List (Key × W) → Option W
  | [] => none
  | (q, w) :: r => if q = k then some w else dGet k r
def dPut (k : Key) (v : W) (kvs : List (Key × W)) : List (Key × W) :=
  if (kvs.any fun q => decide (q.1 = k)) = true then kvs.map (fun q => if q.1 = k then (q.1, v) else q) else kvs ++ [(k, v)]
def dDel (k : Key) (kvs : List (Key × W)) : List (Key × W) := kvs.filter fun q => decide (q.1 ≠ k)
def dOf : List W → List (Key × W) → Option (List (Key × W))
  | [], acc => some acc
  | .tup [k, v] :: r, acc => (keyOf k).bind fun q => dOf r (dPut q v acc)
  | _ :: _, _ => none
def fGet (k : Nat) : List (Nat × W) → Option W
  | [] => none
  | (q, w) :: r => if q = k then some w else fGet k r
def fPut (k : Nat) (v : W) : List (Nat × W) → List (Nat × W)
  | [] => [(k, v)]
  | (q, w) :: r => if q = k then (q, v) :: r else (q, w) :: fPut k v r

def insInt (x : Int) : List Int → List Int
  | [] => [x]
  | y :: r => if x ≤ y then x :: y :: r else y :: insInt x r
def sortInt : List Int → List Int
  | [] => []
  | x :: r => insInt x (sortInt r)
def insStr (x : String) : List String → List String
  | [] => [x]
  | y :: r => if y < x then y :: insStr x r else x :: y :: r
def sortStr : List String → List String
  | [] => []
  | x :: r => insStr x (sortStr r)
/-- a set's members in order -/
def insU (x : String) : List String → List String
  | [] => [x]
  | y :: r => if x = y then y :: r else if y < x then y :: insU x r else x :: y :: r
def sortU : List String → List String
  | [] => []
  | x :: r => insU x (sortU r)
def maxI : Int → List Int → Int
  | m, [] => m
  | m, x :: r => maxI (if x > m then x else m) r

inductive Bop where
  | add | sub | mul | mod | fdiv | pow
  deriving DecidableEq
inductive Cop where
  | eq | ne | lt | le | gt | ge | isin | notin
  deriving DecidableEq
def wBin (o : Bop) (h : MH) (a b : W) : Option W := match o, deref h a, deref h b with
  | .add, .int i, .int j => some (.int (i + j))
  | .add, .str x, .str y => if x.length + y.length ≤ LIM then some (.str (x ++ y)) else none
  | .add, .tup x, .tup y => if x.length + y.length ≤ LIM then some (.tup (x ++ y)) else none
  | .add, .lst x, .lst y => if x.length + y.length ≤ LIM then some (.lst (x ++ y)) else none
  | .sub, .int i, .int j => some (.int (i - j))
  | .mul, .int i, .int j => if -(2 ^ 64) < j ∧ j < 2 ^ 64 then some (.int (i * j)) else none
  | .mul, .lst x, .int j => if -(2 ^ 62) < j ∧ j < 2 ^ 62 ∧ x.length * j.toNat ≤ LIM then some (.lst (List.replicate j.toNat x).flatten) else none
  | .mod, .int i, .int j => if 0 < j then some (.int (i % j)) else none
  | .fdiv, .int i, .int j => if 0 < j ∧ j < 1073741824 then some (.int (i / j)) else none
  | .pow, .int i, .int j => if 0 ≤ j ∧ j ≤ 1000000 ∧ -(2 ^ 63) < i ∧ i < 2 ^ 63 then some (.int (i ^ j.toNat)) else none
  | _, _, _ => none
def inL (x : W) (xs : List W) : Option Bool := if x.pure && pureAll xs && decide (min (depthAll xs) x.depth ≤ 62) then some (xs.any fun y => y.eqv x) else none
def wIn (h : MH) (a b : W) : Option Bool := match deref h b with
  | .str t => match a with
    | .str p => match p.toList with
      | [c] => some (t.toList.contains c)
      | _ => some (occS p t)
    | _ => none
  | .tup xs => inL a xs
  | .lst xs => inL a xs
  | .ref n => match h[n]? with
    | some (.dic kvs) => (keyOf a).map fun k => (dGet k kvs).isSome
    | _ => none
  | _ => none
def wCmp (o : Cop) (h : MH) (a b : W) : Option Bool := match o, a, b with
  | .eq, x, y => wEq h x y
  | .ne, x, y => (wEq h x y).map not
  | .lt, .int i, .int j => some (decide (i < j))
  | .lt, .str i, .str j => some (decide (i < j))
  | .le, .int i, .int j => some (decide (i ≤ j))
  | .gt, .int i, .int j => some (decide (j < i))
  | .ge, .int i, .int j => some (decide (j ≤ i))
  | .isin, x, y => wIn h x y
  | .notin, x, y => (wIn h x y).map not
  | _, _, _ => none
def truth (h : MH) : W → Option Bool
  | .non => some false
  | .bl b => some b
  | .int i => some (i != 0)
  | .str s => if s.length ≤ LIM then some (s != "") else none
  | .tup xs => some (!xs.isEmpty)
  | .lst xs => some (!xs.isEmpty)
  | .scr ns => some (!ns.isEmpty)
  | .ref n => match h[n]? with
    | some (.lst xs) => some (!xs.isEmpty)
    | some (.dic kvs) => some (!kvs.isEmpty)
    | _ => none
/-- x is c, c one of None, True, False -/
def wIs (a c : W) : Option Bool := match c, a with
  | .non, .non => some true
  | .non, _ => some false
  | .bl k, .bl b => some (decide (b = k))
  | _, _ => none
def wIx (h : MH) (a i : W) : Option W := match deref h a, i with
  | .tup xs, .int k => atI xs k
  | .lst xs, .int k => atI xs k
  | .scr ns, .int k => (atI ns k).map .int
  | .str s, .int k => if s.length ≤ LIM then (atI s.toList k).map fun c => .str (String.ofList [c]) else none
  | .ref n, k => match h[n]? with
    | some (.dic kvs) => (keyOf k).bind fun q => dGet q kvs
    | _ => none
  | _, _ => none
def wSl (h : MH) (a : W) (lo hi : Option Int) : Option W := match deref h a with
  | .tup xs => some (.tup (cut xs lo hi))
  | .lst xs => some (.lst (cut xs lo hi))
  | .str s => if s.length ≤ LIM then some (.str (String.ofList (cut s.toList lo hi))) else none
  | _ => none
def wRev (h : MH) (a : W) : Option W := match deref h a with
  | .lst xs => some (.lst xs.reverse)
  | _ => none

inductive Ty where
  | int | str | bool | tuple | list | dict
  deriving DecidableEq
def isTy (h : MH) (w : W) : Ty → Option Bool := fun t => match w with
  | .non => some false
  | .bl _ => some (t = .bool || t = .int)
  | .int _ => some (t = .int)
  | .str _ => some (t = .str)
  | .tup _ => some (t = .tuple)
  | .lst _ => some (t = .list)
  | .scr _ => some (t = .list)
  | .ref n => match h[n]? with
    | some (.lst _) => some (t = .list)
    | some (.dic _) => some (t = .dict)
    | some (.ins _ _) => some false
    | some (.fdic _) => none
    | none => none
def isTys (h : MH) (w : W) : List Ty → Option Bool
  | [] => some false
  | t :: ts => match isTy h w t with
    | some true => some true
    | some false => isTys h w ts
    | none => none
inductive Bi where
  | len | int | str | list | tuple | dict | sorted | sortedSet | max | all | isa (ts : List Ty)
def items (h : MH) (w : W) : Option (List W) := match deref h w with
  | .tup xs => some xs
  | .lst xs => some xs
  | .str s => some (s.toList.map fun c => .str (String.ofList [c]))
  | _ => none
def pairOk : W → Bool
  | .tup [.int _, .tup xs] => (strsOf xs).isSome
  | _ => false
def pairKey : W → Int × List String
  | .tup [.int i, .tup xs] => (i, (strsOf xs).getD [])
  | _ => (0, [])
def pairLt (a b : Int × List String) : Bool := if a.1 = b.1 then decide (a.2 < b.2) else decide (a.1 < b.1)
def insP (x : W) : List W → List W
  | [] => [x]
  | y :: r => if pairLt (pairKey y) (pairKey x) = true then y :: insP x r else x :: y :: r
def sortP : List W → List W
  | [] => []
  | x :: r => insP x (sortP r)
def wSorted (xs : List W) : Option (List W) := match xs with
  | .int _ :: _ => if xs.length < 64 then (intsOf xs).map fun l => (sortInt l).map .int else none
  | .str _ :: _ => if xs.length < 64 then (strsOf xs).map fun l => (sortStr l).map .str else none
  | .tup _ :: _ => if xs.all pairOk = true then some (sortP xs) else none
  | [] => some []
  | _ => none
def wBi (b : Bi) (as : List W) (h : MH) : Res W := match b, as with
  | .len, [w] => match deref h w with
    | .str s => if s.length ≤ LIM then .ok (.int s.length) h else .bad
    | .tup xs => .ok (.int xs.length) h
    | .lst xs => .ok (.int xs.length) h
    | .scr ns => .ok (.int ns.length) h
    | .ref n => match h[n]? with
      | some (.dic kvs) => .ok (.int kvs.length) h
      | _ => .bad
    | _ => .bad
  | .int, [.int i] => .ok (.int i) h
  | .int, [.bl k] => .ok (.int (if k then 1 else 0)) h
  | .str, [.int i] => if -(2 ^ 64) < i ∧ i < 2 ^ 64 then .ok (.str (toString i)) h else .bad
  | .list, [w] => match deref h w with
    | .tup xs => .ok (.lst xs) h
    | .lst xs => .ok (.lst xs) h
    | .ref n => match h[n]? with
      | some (.dic kvs) => .ok (.lst (kvs.map fun q => keyW q.1)) h
      | _ => .bad
    | _ => .bad
  | .tuple, [w] => match deref h w with
    | .tup xs => .ok (.tup xs) h
    | .lst xs => .ok (.tup xs) h
    | _ => .bad
  | .dict, [w] => match deref h w with
    | .lst xs => match dOf xs [] with
      | some kvs => .ok (.ref h.length) (h ++ [.dic kvs])
      | none => .bad
    | .ref n => match h[n]? with
      | some (.dic kvs) => .ok (.ref h.length) (h ++ [.dic kvs])
      | _ => .bad
    | _ => .bad
  | .sorted, [w] => match deref h w with
    | .lst xs => lift ((wSorted xs).map .lst) h
    | .ref n => match h[n]? with
      | some (.dic kvs) => match kvs with
        | (.inr _, _) :: _ => .bad
        | _ => lift ((wSorted (kvs.map fun q => keyW q.1)).map .lst) h
      | _ => .bad
    | _ => .bad
  | .sortedSet, [.lst xs] => if xs.length < 64 then lift ((strsOf xs).map fun l => .lst ((sortU l).map .str)) h else .bad
  | .max, [.lst xs] => match intsOf xs with
    | some (i :: r) => .ok (.int (maxI i r)) h
    | _ => .bad
  | .max, [.int i, .int j] => .ok (.int (if j > i then j else i)) h
  | .all, [.lst xs] => lift ((blsOf xs).map fun l => .bl (l.all id)) h
  | .isa ts, [w] => lift ((isTys h w ts).map .bl) h
  | _, _ => .bad
inductive Bm where
  | append | extend | pop | get | get2 | dpop | split | join | partition | endswith | index
  deriving DecidableEq
/-- the receiver is of the method's kind -/
def bmOk (m : Bm) (h : MH) (o : W) : Bool := match m, o with
  | .append, .ref n | .extend, .ref n | .pop, .ref n => match h[n]? with
    | some (.lst _) => true
    | _ => false
  | .get, .ref n | .get2, .ref n | .dpop, .ref n => match h[n]? with
    | some (.dic _) => true
    | _ => false
  | .split, .str _ | .join, .str _ | .partition, .str _ | .endswith, .str _ => true
  | .index, .tup _ => true
  | _, _ => false
def setAt (h : MH) (n : Nat) (o : MO) : MH := h.set n o
def indexOf (x : W) : List W → Option Nat
  | [] => none
  | y :: r => if y.eqv x then some 0 else (indexOf x r).map (· + 1)
def wBm (m : Bm) (o : W) (as : List W) (h : MH) : Res W := match m, o, as with
  | .append, .ref n, [w] => match h[n]? with
    | some (.lst xs) => if xs.length < LIM then .ok .non (setAt h n (.lst (xs ++ [w]))) else .bad
    | _ => .bad
  | .extend, .ref n, [w] => match h[n]?, deref h w with
    | some (.lst xs), .lst ys => if xs.length + ys.length ≤ LIM then .ok .non (setAt h n (.lst (xs ++ ys))) else .bad
    | _, _ => .bad
  | .pop, .ref n, [] => match h[n]? with
    | some (.lst xs) => match xs.getLast? with
      | some w => .ok w (setAt h n (.lst xs.dropLast))
      | none => .bad
    | _ => .bad
  | .get, .ref n, [k] => match h[n]?, keyOf k with
    | some (.dic kvs), some q => .ok ((dGet q kvs).getD .non) h
    | _, _ => .bad
  | .get2, .ref n, [k, d] => match h[n]?, keyOf k with
    | some (.dic kvs), some q => .ok ((dGet q kvs).getD d) h
    | _, _ => .bad
  | .dpop, .ref n, [k, d] => match h[n]?, keyOf k with
    | some (.dic kvs), some q => match dGet q kvs with
      | some w => .ok w (setAt h n (.dic (dDel q kvs)))
      | none => .ok d h
    | _, _ => .bad
  | .split, .str s, [.str c] => match c.toList with
    | [x] => .ok (.lst ((splitC x s.toList).map fun l => .str (String.ofList l))) h
    | _ => .bad
  | .join, .str s, [w] => match deref h w with
    | .lst xs => match strsOf xs with
      | some l => if (l.map String.length).sum + l.length * s.length ≤ LIM then .ok (.str (joinL s l)) h else .bad
      | none => .bad
    | _ => .bad
  | .endswith, .str s, [.str t] => .ok (.bl (decide (t.toList.length ≤ s.toList.length) && (s.toList.drop (s.toList.length - t.toList.length) == t.toList))) h
  | .index, .tup xs, [w] => if w.pure && pureAll xs && decide (min (depthAll xs) w.depth ≤ 60) then lift ((indexOf w xs).map fun n => .int n) h else .bad
  | _, _, _ => .bad

inductive Ex where
  | var (i : Nat) | cst (w : W) | nil | cons (a as : Ex)
  | tup (as : Ex) | lst (as : Ex) | mls (as : Ex) | dct (kvs : Ex)
  | bin (o : Bop) (a b : Ex) | neg (a : Ex) | cmp (o : Cop) (a b : Ex) | chn (o p : Cop) (a b c : Ex)
  | not (a : Ex) | and (a b : Ex) | or (a b : Ex) | ite (c a b : Ex)
  | call (f : Nat) (as : Ex) | mk (c : Nat) (as : Ex) | mth (m : Nat) (o as : Ex) | fld (o : Ex) (f : Nat)
  | ix (a b : Ex) | sl (a lo hi : Ex) | no | rev (a : Ex)
  | bi (b : Bi) (as : Ex) | bm (m : Bm) (o as : Ex)
  | comp (i : Nat) (ws : List Nat) (it c e : Ex) | cmk (i : Nat) (ws : List Nat) (it c e : Ex) | yes
  | rng1 (a : Ex) | rng2 (a b : Ex) | its (a : Ex) | prt (a : Ex) | dempty (a : Ex) | isc (a : Ex) (c : W) | isx (i c : Nat) | xfld (i f : Nat) | kget (kvs : List (String × W)) (a : Ex)
/-- what the program's classes are -/
structure Tb where
  meth : Nat → Nat → Option Nat
  flds : Nat → List Nat
  init : Nat → Option Nat
  sub : Nat → Nat → Bool
  exf : Nat → Option (Nat × List (Nat × Nat))
/-- an exception of the class c has the field f -/
def xfOk (T : Tb) (c f : Nat) : Bool := match T.exf c with
  | some (_, l) => (l.map (·.1)).contains f
  | none => false
abbrev Orc := Nat → List W → MH → Res W
/-- what stands around: the defs, the defs that make an instance, the caught exception with its slot -/
structure Cxt where
  C : Orc
  M : Orc
  xc : Option (Nat × Nat × List (Nat × W)) := none
/-- not within an except suite -/
def Cxt.calm (X : Cxt) : Bool := match X.xc with
  | none => true
  | some _ => false
def badC : Orc := fun _ _ _ => .bad
def wipe (ρ : Env) : List Nat → Env
  | [] => ρ
  | v :: vs => (wipe ρ vs).set v none
/-- a written dict's answer -/
def sGet (k : String) : List (String × W) → Option W
  | [] => none
  | (q, w) :: r => if q = k then some w else sGet k r
/-- a list comprehension's loop: f gives the item's answer, none where its test fails -/
def compL (f : W → MH → Res (Option W)) : List W → List W → MH → Res W
  | [], acc, h => .ok (.lst acc) h
  | x :: xs, acc, h => match f x h with
    | .ok none h1 => compL f xs acc h1
    | .ok (some y) h1 => if acc.length < LIM then compL f xs (acc ++ [y]) h1 else .bad
    | _ => .bad
def rngW (lo : Int) (n : Nat) : List W := (List.range n).map fun i => .int (lo + (i : Nat))
def isClo (i : Int) : Bool := decide (-(2 ^ 62) ≤ i ∧ i < 2 ^ 62)
section
variable (T : Tb) (X : Cxt)
mutual
def ev : Ex → Env → MH → Res W
  | .var i => fun ρ h => match ρ[i]? with
    | some (some w) => .ok w h
    | _ => .bad
  | .cst w => fun _ h => .ok w h
  | .tup as => fun ρ h => (evs as ρ h).bind fun ws h1 => if ws.length ≤ LIM then .ok (.tup ws) h1 else .bad
  | .lst as => fun ρ h => (evs as ρ h).bind fun ws h1 => if ws.length ≤ LIM then .ok (.lst ws) h1 else .bad
  | .mls as => fun ρ h => (evs as ρ h).bind fun ws h1 => if ws.length ≤ LIM then .ok (.ref h1.length) (h1 ++ [.lst ws]) else .bad
  | .dct kvs => fun ρ h => (evd kvs ρ h).bind fun kvs h1 => if (kvs.map (·.1)).Nodup then .ok (.ref h1.length) (h1 ++ [.dic kvs]) else .bad
  | .bin o a b => fun ρ h => (ev a ρ h).bind fun x h1 => (ev b ρ h1).bind fun y h2 => lift (wBin o h2 x y) h2
  | .neg a => fun ρ h => (ev a ρ h).bind fun x h1 => match x with
    | .int i => .ok (.int (-i)) h1
    | _ => .bad
  | .cmp o a b => fun ρ h => (ev a ρ h).bind fun x h1 => (ev b ρ h1).bind fun y h2 => lift ((wCmp o h2 x y).map .bl) h2
  | .chn o p a b c => fun ρ h => (ev a ρ h).bind fun x h1 => (ev b ρ h1).bind fun y h2 => (lift (wCmp o h2 x y) h2).bind fun k h3 =>
    if k then (ev c ρ h3).bind fun z h4 => lift ((wCmp p h4 y z).map .bl) h4 else .ok (.bl false) h3
  | .not a => fun ρ h => (ev a ρ h).bind fun x h1 => (lift (truth h1 x) h1).bind fun k h2 => .ok (.bl (!k)) h2
  | .and a b => fun ρ h => (ev a ρ h).bind fun x h1 => (lift (truth h1 x) h1).bind fun k h2 => if k then ev b ρ h2 else .ok x h2
  | .or a b => fun ρ h => (ev a ρ h).bind fun x h1 => (lift (truth h1 x) h1).bind fun k h2 => if k then .ok x h2 else ev b ρ h2
  | .ite c a b => fun ρ h => (ev c ρ h).bind fun x h1 => (lift (truth h1 x) h1).bind fun k h2 => if k then ev a ρ h2 else ev b ρ h2
  | .call f as => fun ρ h => if X.calm then (evs as ρ h).bind fun ws h1 => X.C f ws h1 else .bad
  | .mk c as => fun ρ h => match X.calm, T.init c with
    | true, some f => (evs as ρ h).bind fun ws h1 => (X.M f (.ref h1.length :: ws) (h1 ++ [.ins c []])).bind fun r h2 => match r with
      | .non => .ok (.ref h1.length) h2
      | _ => .bad
    | _, _ => .bad
  | .mth m o as => fun ρ h => if X.calm then (ev o ρ h).bind fun x h1 => match x with
    | .ref n => match h1[n]? with
      | some (.ins c _) => match T.meth m c with
        | some f => (evs as ρ h1).bind fun ws h2 => X.C f (.ref n :: ws) h2
        | none => .bad
      | _ => .bad
    | _ => .bad
    else .bad
  | .fld o f => fun ρ h => (ev o ρ h).bind fun x h1 => match x with
    | .ref n => match h1[n]? with
      | some (.ins c fs) => if (T.flds c).contains f then lift (fGet f fs) h1 else .bad
      | _ => .bad
    | _ => .bad
  | .ix a b => fun ρ h => (ev a ρ h).bind fun x h1 => (ev b ρ h1).bind fun y h2 => lift (wIx h2 x y) h2
  | .sl a lo hi => fun ρ h => (ev a ρ h).bind fun x h1 => (evo lo ρ h1).bind fun l h2 => (evo hi ρ h2).bind fun u h3 => lift (wSl h3 x l u) h3
  | .rev a => fun ρ h => (ev a ρ h).bind fun x h1 => lift (wRev h1 x) h1
  | .bi b as => fun ρ h => if X.calm then (evs as ρ h).bind fun ws h1 => wBi b ws h1 else .bad
  | .bm m o as => fun ρ h => if X.calm then (ev o ρ h).bind fun x h1 => if bmOk m h1 x then (evs as ρ h1).bind fun ws h2 => wBm m x ws h2 else .bad else .bad
  | .comp i ws it c e => fun ρ h => if X.calm then (evi it ρ h).bind fun xs h1 => compL (fun x h2 =>
      (ev c ((wipe ρ ws).set i (some x)) h2).bind fun k h3 => (lift (truth h3 k) h3).bind fun b h4 =>
        if b then (ev e ((wipe ρ ws).set i (some x)) h4).bind fun y h5 => .ok (some y) h5 else .ok none h4) xs [] h1 else .bad
  | .cmk i ws it c e => fun ρ h => if X.calm then match ev it ρ h with
    | .ok (.ref n) _ => match h[n]? with
      | some (.dic kvs) => match ev it ρ (setAt h n (.fdic kvs)) with
        | .ok (.ref m) h1 => if m = n then (compL (fun x h2 =>
            (ev c ((wipe ρ ws).set i (some x)) h2).bind fun k h3 => (lift (truth h3 k) h3).bind fun b h4 =>
              if b then (ev e ((wipe ρ ws).set i (some x)) h4).bind fun y h5 => .ok (some y) h5 else .ok none h4) (kvs.map fun q => keyW q.1) [] h1).fin fun w h2 => .ok w (setAt h2 n (.dic kvs)) else .bad
        | _ => .bad
      | _ => .bad
    | _ => .bad else .bad
  | .yes => fun _ h => .ok (.bl true) h
  | .dempty a => fun ρ h => (ev a ρ h).bind fun x h1 => match x with
    | .ref n => match h1[n]? with
      | some (.dic kvs) => .ok (.bl kvs.isEmpty) h1
      | _ => .bad
    | _ => .bad
  | .isc a c => fun ρ h => (ev a ρ h).bind fun x h1 => lift ((wIs x c).map .bl) h1
  | .isx i c => fun _ h => match X.xc with
    | some (j, d, fs) => if j = i ∧ fs.isEmpty = true then .ok (.bl (T.sub d c)) h else .bad
    | none => .bad
  | .xfld i f => fun _ h => match X.xc with
    | some (j, d, fs) => if j = i ∧ xfOk T d f = true then lift (fGet f fs) h else .bad
    | none => .bad
  | .kget kvs a => fun ρ h => if X.calm then (ev a ρ h).bind fun x h1 => match x with
    | .str s => .ok ((sGet s kvs).getD .non) h1
    | _ => .bad
    else .bad
  | .nil | .cons _ _ | .no | .rng1 _ | .rng2 _ _ | .its _ | .prt _ => fun _ _ => .bad
/-- arguments, from the left -/
def evs : Ex → Env → MH → Res (List W)
  | .nil => fun _ h => .ok [] h
  | .cons a as => fun ρ h => (ev a ρ h).bind fun x h1 => (evs as ρ h1).bind fun xs h2 => .ok (x :: xs) h2
  | _ => fun _ _ => .bad
/-- a display's keys and values -/
def evd : Ex → Env → MH → Res (List (Key × W))
  | .nil => fun _ h => .ok [] h
  | .cons k (.cons v r) => fun ρ h => (ev k ρ h).bind fun x h1 => (ev v ρ h1).bind fun y h2 => (lift (keyOf x) h2).bind fun q h3 => (evd r ρ h3).bind fun r h4 => .ok ((q, y) :: r) h4
  | _ => fun _ _ => .bad
/-- a bound of a slice -/
def evo : Ex → Env → MH → Res (Option Int)
  | .no => fun _ h => .ok none h
  | .prt e => fun ρ h => (ev e ρ h).bind fun x h1 => match x with
    | .int i => .ok (some i) h1
    | _ => .bad
  | _ => fun _ _ => .bad
/-- what a loop walks -/
def evi : Ex → Env → MH → Res (List W)
  | .rng1 a => fun ρ h => (ev a ρ h).bind fun x h1 => match x with
    | .int j => if isClo j then .ok (rngW 0 j.toNat) h1 else .bad
    | _ => .bad
  | .rng2 a b => fun ρ h => (ev a ρ h).bind fun x h1 => (ev b ρ h1).bind fun y h2 => match x, y with
    | .int i, .int j => if isClo i && isClo j then .ok (rngW i (j - i).toNat) h2 else .bad
    | _, _ => .bad
  | .its e => fun ρ h => (ev e ρ h).bind fun x h1 => match x with
    | .tup xs => .ok xs h1
    | .lst xs => .ok xs h1
    | .str s => .ok (s.toList.map fun c => .str (String.ofList [c])) h1
    | _ => .bad
  | _ => fun _ _ => .bad
end

inductive Tg where
  | nm (i : Nat) | at (o : Ex) (f : Nat) | sub (o i : Ex) | tup (ts : Tg) | nil | cons (t ts : Tg)
inductive St where
  | nev | skip | seq (a b : St) | exp (e : Ex) | asg (t : Tg) (e : Ex) | par (is : List Nat) (as : Ex)
  | augf (o : Ex) (f : Nat) (op : Bop) (e : Ex) | ife (c : Ex) (a b : St) | forr (t : Tg) (it : Ex) (b : St) | whl (n : Nat) (c : Ex) (b : St)
  | ret (e : Ex) | rai (c : Nat) (as : Ex) | tri (b : St) (c : Nat) (i : Nat) (s : St)
mutual
def asn : Tg → W → Env → MH → Res Env
  | .nm i => fun w ρ h => match X.xc with
    | none => .ok (ρ.set i (some w)) h
    | some (j, _, _) => if i = j then .bad else .ok (ρ.set i (some w)) h
  | .at o f => fun w ρ h => (ev T X o ρ h).bind fun x h1 => match x with
    | .ref n => match h1[n]? with
      | some (.ins c fs) => if (T.flds c).contains f && decide (fs.length < 900) then .ok ρ (setAt h1 n (.ins c (fPut f w fs))) else .bad
      | _ => .bad
    | _ => .bad
  | .sub o i => fun w ρ h => (ev T X o ρ h).bind fun x h1 => (ev T X i ρ h1).bind fun y h2 => match x with
    | .ref n => match h2[n]?, y with
      | some (.lst xs), .int k => match ixN xs.length k with
        | some j => .ok ρ (setAt h2 n (.lst (xs.set j w)))
        | none => .bad
      | some (.dic kvs), k => match keyOf k with
        | some q => if kvs.length < LIM then .ok ρ (setAt h2 n (.dic (dPut q w kvs))) else .bad
        | none => .bad
      | _, _ => .bad
    | _ => .bad
  | .tup ts => fun w ρ h => if X.calm then match w with
    | .tup ws => asns ts ws ρ h
    | _ => .bad else .bad
  | .nil | .cons _ _ => fun _ _ _ => .bad
def asns : Tg → List W → Env → MH → Res Env
  | .nil => fun ws ρ h => match ws with
    | [] => .ok ρ h
    | _ => .bad
  | .cons t ts => fun ws ρ h => match ws with
    | w :: r => (asn t w ρ h).bind fun ρ1 h1 => asns ts r ρ1 h1
    | [] => .bad
  | _ => fun _ _ _ => .bad
end
def forL (g : W → Env → MH → Res Env) (b : Env → MH → Out) : List W → Env → MH → Out
  | [], ρ, h => .nx ρ h
  | x :: xs, ρ, h => match g x ρ h with
    | .ok ρ1 h1 => match b ρ1 h1 with
      | .nx ρ2 h2 => forL g b xs ρ2 h2
      | o => o
    | _ => .bad
def whlL (c : Env → MH → Res Bool) (b : Env → MH → Out) : Nat → Env → MH → Out
  | 0, _, _ => .bad
  | n + 1, ρ, h => match c ρ h with
    | .ok true h1 => match b ρ h1 with
      | .nx ρ2 h2 => whlL c b n ρ2 h2
      | o => o
    | .ok false h1 => .nx ρ h1
    | .exc c fs h1 => .ex c fs ρ h1
    | .bad => .bad
end
def setAll (ρ : Env) : List Nat → List W → Env
  | i :: is, w :: ws => setAll (ρ.set i (some w)) is ws
  | _, _ => ρ
/-- the fields of a new exception -/
def excF (ws : List W) : List (Nat × Nat) → Option (List (Nat × W))
  | [] => some []
  | (f, j) :: r => match ws[j]?, excF ws r with
    | some w, some l => some ((f, w) :: l)
    | _, _ => none
/-- a statement's expression, then what follows -/
def stm {β : Type} (r : Res β) (ρ : Env) (F : β → MH → Out) : Out := match r with
  | .ok w h => F w h
  | .exc c fs h => .ex c fs ρ h
  | .bad => .bad
/-- a store: it stands or not -/
def sto (r : Res Env) : Out := match r with
  | .ok ρ h => .nx ρ h
  | _ => .bad
/-- an expression as a test -/
def evT (T : Tb) (k : Cxt) (x : Ex) : Env → MH → Res Bool := fun ρ h => (ev T k x ρ h).bind fun w h1 => lift (truth h1 w) h1
def augO (op : Bop) (i j : Int) : Option Int := match op with
  | .add => some (i + j)
  | .sub => some (i - j)
  | _ => none
/-- stores from the right may be served here -/
def parOk (X : Cxt) (is : List Nat) : Bool := match X.xc with
  | none => true
  | some (j, _, _) => is.length == 2 && !is.contains j
def run (T : Tb) : St → Cxt → Env → MH → Out
  | .nev => fun _ _ _ => .bad
  | .skip => fun _ ρ h => .nx ρ h
  | .seq a b => fun X ρ h => match run T a X ρ h with
    | .nx ρ1 h1 => run T b X ρ1 h1
    | o => o
  | .exp e => fun X ρ h => stm (ev T X e ρ h) ρ fun _ h1 => .nx ρ h1
  | .asg t e => fun X ρ h => stm (ev T X e ρ h) ρ fun w h1 => sto (asn T X t w ρ h1)
  | .par is as => fun X ρ h => if parOk X is then stm (evs T X as ρ h) ρ fun ws h1 => if ws.length = is.length then .nx (setAll ρ is ws) h1 else .bad else .bad
  | .augf o f op e => fun X ρ h => stm (ev T X o ρ h) ρ fun x h1 => match x with
    | .ref n => match h1[n]? with
      | some (.ins c fs) => match (T.flds c).contains f, fGet f fs with
        | true, some (.int i) => stm (ev T X e ρ h1) ρ fun y h2 => match y, h2[n]? with
          | .int j, some (.ins c2 fs2) => match augO op i j with
            | some z => if c2 = c ∧ fs2.length < 900 then .nx ρ (setAt h2 n (.ins c (fPut f (.int z) fs2))) else .bad
            | none => .bad
          | _, _ => .bad
        | _, _ => .bad
      | _ => .bad
    | _ => .bad
  | .ife c a b => fun X ρ h => stm (evT T X c ρ h) ρ fun k h1 => if k then run T a X ρ h1 else run T b X ρ h1
  | .forr t it b => fun X ρ h => if X.calm then stm (evi T X it ρ h) ρ fun xs h1 => forL (asn T X t) (run T b X) xs ρ h1 else .bad
  | .whl n c b => fun X ρ h => if X.calm then whlL (evT T X c) (run T b X) n ρ h else .bad
  | .ret e => fun X ρ h => stm (ev T X e ρ h) ρ fun w h1 => .rt w h1
  | .rai c as => fun X ρ h => if X.calm then (match T.exf c with
      | some (k, l) => stm (evs T X as ρ h) ρ fun ws h1 => if ws.length = k then match excF ws l with
          | some fs => .ex c fs ρ h1
          | none => .bad
        else .bad
      | none => .bad)
    else .bad
  | .tri b c i s => fun X ρ h => match X.xc with
    | some _ => .bad
    | none => match run T b X ρ h with
      | .ex c' fs ρ1 h1 => if T.sub c' c then (if i < ρ1.length then match run T s ⟨badC, badC, some (i, c', fs)⟩ (ρ1.set i none) h1 with
          | .nx ρ2 h2 => .nx (ρ2.set i none) h2
          | .rt w h2 => .rt w h2
          | _ => .bad
          else .bad)
        else .ex c' fs ρ1 h1
      | o => o
/-- a program: what its classes are; of each def the number of parameters, of names, and the body -/
structure Pg where
  T : Tb
  fn : Nat → Option (Nat × Nat × St)
def Out.res (o : Out) : Res W := match o with
  | .nx _ h => .ok .non h
  | .rt w h => .ok w h
  | .ex c fs _ h => .exc c fs h
  | .bad => .bad
def startE (m : Nat) (ws : List W) : Env := ws.map some ++ List.replicate (m - ws.length) none
def bodyC (P : Pg) (C C' : Orc) : Orc := fun f ws h => match P.fn f with
  | some (k, m, b) => if ws.length = k then (run P.T b ⟨C, C', none⟩ (startE m ws) h).res else .bad
  | none => .bad
def callP2 (P : Pg) : Nat → Orc × Orc
  | 0 => (badC, badC)
  | n + 1 => (bodyC P (callP2 P n).1 (callP2 P n).2, (callP2 P n).1)
/-- a call of depth at most n -/
def call (P : Pg) (n : Nat) : Orc := (callP2 P n).1
def callM (P : Pg) : Nat → Orc
  | 0 => badC
  | n + 1 => call P n
theorem callP2_snd (P : Pg) : ∀ n, (callP2 P n).2 = callM P n
  | 0 => rfl
  | _ + 1 => rfl
theorem call_succ (P : Pg) (n : Nat) : call P (n + 1) = bodyC P (call P n) (callM P n) := by
  show bodyC P (callP2 P n).1 (callP2 P n).2 = _
  rw [callP2_snd]
  rfl
end Py

set_option linter.all false
set_option Elab.async false
set_option maxRecDepth 100000
namespace Py
open PySem (Addr Value Obj)
abbrev Frag := PySem.W.Frag
abbrev HV := L2.V
abbrev Hp := L2.Hp
theorem S_inj {s t : String} (h : S s = S t) : s = t := by
  unfold S at h
  rw [PySem.Str.ofString_eq_toList, PySem.Str.ofString_eq_toList] at h
  have h1 : (s.toList.map Char.toNat).toArray = (t.toList.map Char.toNat).toArray := by injection h
  have h2 : s.toList.map Char.toNat = t.toList.map Char.toNat := by simpa using h1
  have h3 : s.toList = t.toList := by
    have inj : ∀ a b : List Char, a.map Char.toNat = b.map Char.toNat → a = b := by
      intro a
      induction a with
      | nil => intro b e; cases b with
        | nil => rfl
        | cons => simp at e
      | cons x xs ih => intro b e; cases b with
        | nil => simp at e
        | cons y ys =>
          simp only [List.map_cons, List.cons.injEq] at e
          rw [ih ys e.2, Char.toNat_inj.mp e.1]
    exact inj _ _ h2
  exact String.toList_inj.mp h3
/-- the objects that change, in order; and a few that nobody else sees -/
structure AL where
  l : List Addr
  f : List Addr
def AL.length (A : AL) : Nat := A.l.length
instance : Membership Addr AL := ⟨fun A a => a ∈ A.l ∨ a ∈ A.f⟩
instance : GetElem? AL Nat Addr (fun A i => i < A.l.length) where
  getElem A i h := A.l[i]
  getElem? A i := A.l[i]?
instance : HAppend AL (List Addr) AL := ⟨fun A r => ⟨A.l ++ r, A.f⟩⟩
theorem AL.mem_at {A : AL} {n : Nat} {a : Addr} (h : A[n]? = some a) : a ∈ A := .inl (List.mem_iff_getElem?.mpr ⟨n, h⟩)
theorem AL.app_mem {A : AL} {r : List Addr} {a : Addr} (h : a ∈ A) : a ∈ A ++ r := h.elim (fun h => .inl (List.mem_append_left _ h)) .inr
theorem AL.mem_app {A : AL} {r : List Addr} {a : Addr} (h : a ∈ A ++ r) : a ∈ A ∨ a ∈ r := by
  rcases h with h | h
  · exact (List.mem_append.mp h).imp .inl id
  · exact .inl (.inr h)
theorem AL.app_nil {A : AL} : A = A ++ ([] : List Addr) := by
  cases A; show AL.mk _ _ = AL.mk _ _; simp
theorem AL.app_assoc {A : AL} {r q : List Addr} : (A ++ r) ++ q = A ++ (r ++ q) := by
  show AL.mk ((A.l ++ r) ++ q) A.f = AL.mk (A.l ++ (r ++ q)) A.f; rw [List.append_assoc]
def keyS : Key → L2.Key
  | .inl i => .inl i
  | .inr s => .inr (S s)
theorem keyS_inj {a b : Key} (h : keyS a = keyS b) : a = b := by
  cases a <;> cases b <;> simp only [keyS, Sum.inl.injEq, Sum.inr.injEq, reduceCtorEq] at h
  · rw [h]
  · rw [S_inj h]

/-- a tuple, a list that stands still: not one of the objects that change, or one of the written part -/
def STup (K : Frag) (H : Hp) (al : AL) (a : Addr) (vs : List HV) : Prop :=
  (L2.Rd H a (.tup vs) ∧ a ∉ al) ∨ ∃ (o : Obj) (its : Array Value) (n : Nat), K.lookup a = some o ∧ o.cls = .type "tuple" ∧ o.data = .seq its n ∧ its.size ≤ PySem.sizeLine ∧ L2.Vals vs its.toList
def SLst (K : Frag) (H : Hp) (al : AL) (a : Addr) (vs : List HV) : Prop := H a = some (.lst vs) ∧ a ∉ al
/-- the list of the law's numbers: it stands still for good -/
def SScr (K : Frag) (H : Hp) (al : AL) (a : Addr) (vs : List HV) : Prop :=
  (L2.Rd H a (.lst vs) ∧ a ∉ al ∧ ∃ o u, H a = some (.frz o u)) ∨ ∃ (o : Obj) (its : Array Value) (n : Nat), K.lookup a = some o ∧ o.cls = .type "list" ∧ o.dict = none ∧ o.data = .seq its n ∧ its.size ≤ PySem.sizeLine ∧ L2.Vals vs its.toList
theorem SScr.sq {K : Frag} {H : Hp} {al : AL} {a : Addr} {vs : List HV} (h : SScr K H al a vs) : L2.SqL K H a vs := h.imp (·.1) id
theorem STup.sq {K : Frag} {H : Hp} {al : AL} {a : Addr} {vs : List HV} (h : STup K H al a vs) : L2.SqT K H a vs := h.imp (·.1) id
theorem SLst.sq {K : Frag} {H : Hp} {al : AL} {a : Addr} {vs : List HV} (h : SLst K H al a vs) : L2.SqL K H a vs := .inl (.inl h.1)
mutual
inductive Rep (K : Frag) (H : Hp) (al : AL) : HV → W → Prop
  | non : Rep K H al .non .non
  | bl (b : Bool) : Rep K H al (.bl b) (.bl b)
  | int (i : Int) : Rep K H al (.int i) (.int i)
  | str (s : String) : Rep K H al (.str (S s)) (.str s)
  | tup {a : Addr} {vs : List HV} {ws : List W} : STup K H al a vs → RepL K H al vs ws → Rep K H al (.ref a) (.tup ws)
  | lst {a : Addr} {vs : List HV} {ws : List W} : SLst K H al a vs → RepL K H al vs ws → Rep K H al (.ref a) (.lst ws)
  | ref {a : Addr} {n : Nat} : al[n]? = some a → Rep K H al (.ref a) (.ref n)
  | scr {a : Addr} {ns : List Int} : SScr K H al a (ns.map L2.V.int) → Rep K H al (.ref a) (.scr ns)
inductive RepL (K : Frag) (H : Hp) (al : AL) : List HV → List W → Prop
  | nil : RepL K H al [] []
  | cons {v : HV} {w : W} {vs : List HV} {ws : List W} : Rep K H al v w → RepL K H al vs ws → RepL K H al (v :: vs) (w :: ws)
end
/-- a later heap: what stood still stands, the objects that change are more, the new ones were not there -/
structure Ext (al : AL) (H : Hp) (al' : AL) (H' : Hp) : Prop where
  pre : ∃ r : List Addr, al' = al ++ r
  keep : ∀ a o, H a = some o → a ∉ al → H' a = some o
  new : ∀ a, a ∈ al' → a ∉ al → H a = none
  fen : ∀ a ∈ al.f, H' a = H a
  /-- what is locked stays as it is -/
  frz : ∀ a o u, a ∈ al → H a = some (.frz o u) → H' a = some (.frz o u)
section
variable {K : Frag} {al al1 al2 : AL} {H H1 H2 : Hp}
theorem Ext.refl : Ext al H al H := ⟨⟨[], AL.app_nil⟩, fun _ _ e _ => e, fun _ h n => absurd h n, fun _ _ => rfl, fun _ _ _ _ e => e⟩
theorem Ext.out (x : Ext al H al1 H1) {a : Addr} {o : L2.HO} (e : H a = some o) (n : a ∉ al) : a ∉ al1 := fun h => by
  have := x.new a h n
  rw [e] at this; cases this
theorem Ext.trans (x : Ext al H al1 H1) (y : Ext al1 H1 al2 H2) : Ext al H al2 H2 := by
  obtain ⟨r, er⟩ := x.pre
  obtain ⟨q, eq⟩ := y.pre
  refine ⟨⟨r ++ q, by rw [eq, er, AL.app_assoc]⟩, fun a o e n => y.keep a o (x.keep a o e n) (x.out e n), fun a h n => ?_, fun a h => (y.fen a (by rw [er]; exact h)).trans (x.fen a h), fun a o u m e => y.frz a o u (by rw [er]; exact AL.app_mem m) (x.frz a o u m e)⟩
  by_cases h1 : a ∈ al1
  · exact x.new a h1 n
  · cases e : H a with
    | none => rfl
    | some o => have := y.new a h h1; rw [x.keep a o e n] at this; cases this
theorem Ext.get (x : Ext al H al1 H1) {n : Nat} {a : Addr} (h : al[n]? = some a) : al1[n]? = some a := by
  obtain ⟨r, er⟩ := x.pre
  rw [er]; exact (List.getElem?_append_left (List.getElem?_eq_some_iff.mp h).1).trans h
theorem nd_tup {vs : List HV} : ∀ kvs, L2.HO.tup vs ≠ .dK kvs := fun _ h => nomatch h
theorem nd_lst {vs : List HV} : ∀ kvs, L2.HO.lst vs ≠ .dK kvs := fun _ h => nomatch h
theorem nd_frz {o : Obj} {u : L2.HO} : ∀ kvs, L2.HO.frz o u ≠ .dK kvs := fun _ h => nomatch h
theorem nd_own {a : Addr} : ∀ kvs, L2.HO.own a ≠ .dK kvs := fun _ h => nomatch h
/-- .. where a dict of nobody's may have become one of the objects that change -/
structure ExtW (al : AL) (H : Hp) (al' : AL) (H' : Hp) : Prop where
  pre : ∃ r : List Addr, al' = al ++ r
  keep : ∀ a o, (∀ kvs, o ≠ L2.HO.dK kvs) → H a = some o → a ∉ al → H' a = some o ∧ a ∉ al'
theorem Ext.w (x : Ext al H al1 H1) : ExtW al H al1 H1 := ⟨x.pre, fun a o _ e n => ⟨x.keep a o e n, x.out e n⟩⟩
theorem ExtW.get (x : ExtW al H al1 H1) {n : Nat} {a : Addr} (h : al[n]? = some a) : al1[n]? = some a := by
  obtain ⟨r, er⟩ := x.pre
  rw [er]; exact (List.getElem?_append_left (List.getElem?_eq_some_iff.mp h).1).trans h
theorem rd_keep (x : ExtW al H al1 H1) {a : Addr} {u : L2.HO} (nd : ∀ kvs, u ≠ L2.HO.dK kvs) (h : L2.Rd H a u) (n : a ∉ al) : L2.Rd H1 a u ∧ a ∉ al1 := by
  rcases h with h | ⟨o, h⟩
  · exact ⟨.inl (x.keep _ _ nd h n).1, (x.keep _ _ nd h n).2⟩
  · have k := x.keep _ _ nd_frz h n
    exact ⟨.inr ⟨o, k.1⟩, k.2⟩
mutual
theorem Rep.monoW (x : ExtW al H al1 H1) : ∀ {v : HV} {w : W}, Rep K H al v w → Rep K H1 al1 v w
  | _, _, .non => .non
  | _, _, .bl b => .bl b
  | _, _, .int i => .int i
  | _, _, .str s => .str s
  | _, _, .tup h r => .tup (h.imp (fun q => rd_keep x nd_tup q.1 q.2) id) (RepL.monoW x r)
  | _, _, .lst h r => .lst (x.keep _ _ nd_lst h.1 h.2) (RepL.monoW x r)
  | _, _, .ref h => .ref (x.get h)
  | _, _, .scr h => .scr (h.imp (fun ⟨q, n, o, u, e⟩ => ⟨(rd_keep x nd_lst q n).1, (x.keep _ _ nd_frz e n).2, o, u, (x.keep _ _ nd_frz e n).1⟩) id)
theorem RepL.monoW (x : ExtW al H al1 H1) : ∀ {vs : List HV} {ws : List W}, RepL K H al vs ws → RepL K H1 al1 vs ws
  | _, _, .nil => .nil
  | _, _, .cons r t => .cons (Rep.monoW x r) (RepL.monoW x t)
end
theorem Rep.mono (x : Ext al H al1 H1) {v : HV} {w : W} (r : Rep K H al v w) : Rep K H1 al1 v w := r.monoW x.w
theorem RepL.mono (x : Ext al H al1 H1) {vs : List HV} {ws : List W} (r : RepL K H al vs ws) : RepL K H1 al1 vs ws := r.monoW x.w
theorem RepL.length : ∀ {vs : List HV} {ws : List W}, RepL K H al vs ws → vs.length = ws.length
  | _, _, .nil => rfl
  | _, _, .cons _ t => by rw [List.length_cons, List.length_cons, RepL.length t]
theorem RepL.get : ∀ {vs : List HV} {ws : List W} {i : Nat} {w : W}, RepL K H al vs ws → ws[i]? = some w → ∃ v, vs[i]? = some v ∧ Rep K H al v w
  | _, _, _, _, .nil, e => by simp at e
  | _, _, 0, w, .cons r _, e => by simp at e; subst e; exact ⟨_, rfl, r⟩
  | _, _, i + 1, w, .cons _ t, e => by
    obtain ⟨v, h1, h2⟩ := RepL.get (i := i) (w := w) t (by simpa using e)
    exact ⟨v, by simpa using h1, h2⟩
theorem RepL.append : ∀ {vs us : List HV} {ws zs : List W}, RepL K H al vs ws → RepL K H al us zs → RepL K H al (vs ++ us) (ws ++ zs)
  | _, _, _, _, .nil, s => s
  | _, _, _, _, .cons r t, s => .cons r (RepL.append t s)
theorem RepL.take : ∀ {vs : List HV} {ws : List W} (n : Nat), RepL K H al vs ws → RepL K H al (vs.take n) (ws.take n)
  | _, _, 0, _ => .nil
  | _, _, _ + 1, .nil => .nil
  | _, _, n + 1, .cons r t => .cons r (RepL.take n t)
theorem RepL.drop : ∀ {vs : List HV} {ws : List W} (n : Nat), RepL K H al vs ws → RepL K H al (vs.drop n) (ws.drop n)
  | _, _, 0, r => r
  | _, _, _ + 1, .nil => .nil
  | _, _, n + 1, .cons _ t => RepL.drop n t
theorem RepL.set {v : HV} {w : W} (r : Rep K H al v w) : ∀ {vs : List HV} {ws : List W} (i : Nat), RepL K H al vs ws → RepL K H al (vs.set i v) (ws.set i w)
  | _, _, _, .nil => .nil
  | _, _, 0, .cons _ t => .cons r t
  | _, _, i + 1, .cons q t => .cons q (RepL.set r i t)
theorem RepL.reverse {vs : List HV} {ws : List W} (h : RepL K H al vs ws) : RepL K H al vs.reverse ws.reverse := by
  induction vs generalizing ws with
  | nil => cases h; exact .nil
  | cons v vs ih =>
    cases h with
    | cons r t => rw [List.reverse_cons, List.reverse_cons]; exact (ih t).append (.cons r .nil)
theorem RepL.dropLast {vs : List HV} {ws : List W} (h : RepL K H al vs ws) : RepL K H al vs.dropLast ws.dropLast := by
  rw [List.dropLast_eq_take, List.dropLast_eq_take, h.length]; exact h.take _
theorem RepL.rep {vs : List HV} {ws : List W} (h : RepL K H al vs ws) : ∀ k : Nat, RepL K H al (List.replicate k vs).flatten (List.replicate k ws).flatten
  | 0 => .nil
  | k + 1 => by rw [List.replicate_succ, List.replicate_succ, List.flatten_cons, List.flatten_cons]; exact h.append (RepL.rep h k)
theorem RepL.strs : ∀ {vs : List HV} {ws : List W} {l : List String}, RepL K H al vs ws → strsOf ws = some l → vs = l.map fun s => L2.V.str (S s)
  | _, _, l, .nil, e => by simp [strsOf] at e; subst e; rfl
  | _, _, l, .cons r t, e => by
    cases r with
    | str s =>
      simp only [strsOf, Option.map_eq_some_iff] at e
      obtain ⟨m, e1, rfl⟩ := e
      rw [RepL.strs t e1]; rfl
    | _ => simp [strsOf] at e
theorem RepL.ints : ∀ {vs : List HV} {ws : List W} {l : List Int}, RepL K H al vs ws → intsOf ws = some l → vs = l.map L2.V.int
  | _, _, l, .nil, e => by simp [intsOf] at e; subst e; rfl
  | _, _, l, .cons r t, e => by
    cases r with
    | int s =>
      simp only [intsOf, Option.map_eq_some_iff] at e
      obtain ⟨m, e1, rfl⟩ := e
      rw [RepL.ints t e1]; rfl
    | _ => simp [intsOf] at e
theorem RepL.bls : ∀ {vs : List HV} {ws : List W} {l : List Bool}, RepL K H al vs ws → blsOf ws = some l → vs = l.map L2.V.bl
  | _, _, l, .nil, e => by simp [blsOf] at e; subst e; rfl
  | _, _, l, .cons r t, e => by
    cases r with
    | bl s =>
      simp only [blsOf, Option.map_eq_some_iff] at e
      obtain ⟨m, e1, rfl⟩ := e
      rw [RepL.bls t e1]; rfl
    | _ => simp [blsOf] at e
theorem repL_strs : ∀ l : List String, RepL K H al (l.map fun s => L2.V.str (S s)) (l.map W.str)
  | [] => .nil
  | s :: l => .cons (.str s) (repL_strs l)
theorem repL_ints : ∀ l : List Int, RepL K H al (l.map L2.V.int) (l.map W.int)
  | [] => .nil
  | s :: l => .cons (.int s) (repL_ints l)
theorem keyOf_rep {v : HV} {w : W} {k : Key} (r : Rep K H al v w) (e : keyOf w = some k) : v = L2.kV (keyS k) := by
  cases r <;> simp [keyOf] at e <;> subst e <;> rfl
theorem keyW_rep (k : Key) : Rep K H al (L2.kV (keyS k)) (keyW k) := by
  cases k with
  | inl i => exact .int i
  | inr s => exact .str s
end

/-- of the program: where its classes stand (of instances, of exceptions), the fields' names -/
structure Gt where
  cls : Nat → Option Addr
  xcl : Nat → Option Addr
  fnm : Nat → PySem.Str
  fok : Nat → Nat → Bool
  inj : ∀ i j, fnm i = fnm j → i = j
inductive Fa2 {α β : Type} (R : α → β → Prop) : List α → List β → Prop
  | nil : Fa2 R [] []
  | cons {a : α} {b : β} {as : List α} {bs : List β} : R a b → Fa2 R as bs → Fa2 R (a :: as) (b :: bs)
theorem Fa2.imp {α β : Type} {R Q : α → β → Prop} (f : ∀ a b, R a b → Q a b) : ∀ {as : List α} {bs : List β}, Fa2 R as bs → Fa2 Q as bs
  | _, _, .nil => .nil
  | _, _, .cons r t => .cons (f _ _ r) (Fa2.imp f t)
theorem Fa2.length {α β : Type} {R : α → β → Prop} : ∀ {as : List α} {bs : List β}, Fa2 R as bs → as.length = bs.length
  | _, _, .nil => rfl
  | _, _, .cons _ t => by rw [List.length_cons, List.length_cons, Fa2.length t]
def RepD (K : Frag) (H : Hp) (al : AL) : List (L2.Key × HV) → List (Key × W) → Prop := Fa2 fun p q => p.1 = keyS q.1 ∧ Rep K H al p.2 q.2
def RepF (K : Frag) (G : Gt) (H : Hp) (al : AL) : List (PySem.Str × HV) → List (Nat × W) → Prop := Fa2 fun p q => p.1 = G.fnm q.1 ∧ Rep K H al p.2 q.2
/-- .. of an instance of the class c: its own fields alone -/
structure RepI (K : Frag) (G : Gt) (H : Hp) (al : AL) (c : Nat) (gs : List (PySem.Str × HV)) (fs : List (Nat × W)) : Prop where
  rep : RepF K G H al gs fs
  ok : ∀ p ∈ fs, G.fok c p.1 = true
def ObjR (K : Frag) (G : Gt) (H : Hp) (al : AL) (a : Addr) : MO → Prop
  | .lst ws => ∃ vs, H a = some (.lst vs) ∧ RepL K H al vs ws
  | .dic kvs => ∃ ys, H a = some (.dK ys) ∧ RepD K H al ys kvs
  | .fdic kvs => ∃ od ys, H a = some (.frz od (.dK ys)) ∧ RepD K H al ys kvs
  | .ins c fs => ∃ C dx gs, G.cls c = some C ∧ H a = some (.ins C dx gs) ∧ (H dx = some (.own a) ∧ dx ∉ al) ∧ RepI K G H al c gs fs
structure HSim (K : Frag) (G : Gt) (al : AL) (H : Hp) (h : MH) : Prop where
  len : al.length = h.length
  nd : al.l.Nodup
  fen : ∀ a ∈ al.f, a ∉ al.l ∧ ∃ u, H a = some u
  obj : ∀ (n : Nat) (a : Addr) (o : MO), al[n]? = some a → h[n]? = some o → ObjR K G H al a o
section
variable {K : Frag} {G : Gt} {al al1 : AL} {H H1 : Hp} {h : MH}
theorem RepD.monoW (x : ExtW al H al1 H1) {ys : List (L2.Key × HV)} {kvs : List (Key × W)} (r : RepD K H al ys kvs) : RepD K H1 al1 ys kvs := Fa2.imp (fun _ _ q => ⟨q.1, q.2.monoW x⟩) r
theorem RepF.monoW (x : ExtW al H al1 H1) {ys : List (PySem.Str × HV)} {kvs : List (Nat × W)} (r : RepF K G H al ys kvs) : RepF K G H1 al1 ys kvs := Fa2.imp (fun _ _ q => ⟨q.1, q.2.monoW x⟩) r
theorem RepI.monoW (x : ExtW al H al1 H1) {c : Nat} {ys : List (PySem.Str × HV)} {kvs : List (Nat × W)} (r : RepI K G H al c ys kvs) : RepI K G H1 al1 c ys kvs := ⟨r.rep.monoW x, r.ok⟩
theorem RepI.mono (x : Ext al H al1 H1) {c : Nat} {ys : List (PySem.Str × HV)} {kvs : List (Nat × W)} (r : RepI K G H al c ys kvs) : RepI K G H1 al1 c ys kvs := r.monoW x.w
theorem RepD.mono (x : Ext al H al1 H1) {ys : List (L2.Key × HV)} {kvs : List (Key × W)} (r : RepD K H al ys kvs) : RepD K H1 al1 ys kvs := r.monoW x.w
theorem RepF.mono (x : Ext al H al1 H1) {ys : List (PySem.Str × HV)} {kvs : List (Nat × W)} (r : RepF K G H al ys kvs) : RepF K G H1 al1 ys kvs := r.monoW x.w
theorem ObjR.some {a : Addr} {o : MO} (r : ObjR K G H al a o) : ∃ u, H a = some u := by
  cases o with
  | lst ws => obtain ⟨_, e, _⟩ := r; exact ⟨_, e⟩
  | dic ws => obtain ⟨_, e, _⟩ := r; exact ⟨_, e⟩
  | fdic ws => obtain ⟨_, _, e, _⟩ := r; exact ⟨_, e⟩
  | ins c fs => obtain ⟨_, _, _, _, e, _⟩ := r; exact ⟨_, e⟩
theorem HSim.at (s : HSim K G al H h) {n : Nat} {a : Addr} (e : al[n]? = some a) : ∃ o, h[n]? = some o ∧ ObjR K G H al a o := by
  have sl : al.l.length = h.length := s.len
  have hl : n < h.length := by rw [← sl]; exact (List.getElem?_eq_some_iff.mp e).1
  exact ⟨h[n], by simp [hl], s.obj n a _ e (by simp [hl])⟩
theorem HSim.ad (s : HSim K G al H h) {n : Nat} {o : MO} (e : h[n]? = some o) : ∃ a, al[n]? = some a ∧ ObjR K G H al a o := by
  have sl : al.l.length = h.length := s.len
  have hl : n < al.l.length := by rw [sl]; exact (List.getElem?_eq_some_iff.mp e).1
  have hq : al[n]? = some (al.l[n]) := by show al.l[n]? = _; simp [hl]
  exact ⟨al.l[n], hq, s.obj n _ _ hq e⟩
theorem HSim.there (s : HSim K G al H h) {a : Addr} (e : a ∈ al) : ∃ u, H a = some u := by
  rcases e with e | e
  · obtain ⟨n, e⟩ := List.mem_iff_getElem?.mp e
    obtain ⟨o, _, r⟩ := s.at e
    exact r.some
  · exact (s.fen _ e).2
theorem HSim.out (s : HSim K G al H h) {p : Addr} (e : H p = none) : p ∉ al := fun hm => by
  obtain ⟨u, q⟩ := s.there hm
  rw [e] at q; cases q
/-- a later heap whose objects that change are as they were -/
theorem HSim.same (s : HSim K G al H h) (x : Ext al H al H1) (same : ∀ a ∈ al, H1 a = H a) : HSim K G al H1 h := by
  refine ⟨s.len, s.nd, fun a ha => ⟨(s.fen a ha).1, by rw [same a (.inr ha)]; exact (s.fen a ha).2⟩, fun n a o e1 e2 => ?_⟩
  have hm : a ∈ al := AL.mem_at e1
  have r := s.obj n a o e1 e2
  have e := same a hm
  cases o with
  | lst ws => obtain ⟨vs, q, r⟩ := r; exact ⟨vs, e.trans q, r.mono x⟩
  | dic ws => obtain ⟨vs, q, r⟩ := r; exact ⟨vs, e.trans q, r.mono x⟩
  | fdic ws => obtain ⟨od, vs, q, r⟩ := r; exact ⟨od, vs, e.trans q, r.mono x⟩
  | ins c fs => obtain ⟨C, dx, gs, q0, q, n, r⟩ := r; exact ⟨C, dx, gs, q0, e.trans q, ⟨x.keep _ _ n.1 n.2, x.out n.1 n.2⟩, r.mono x⟩
/-- something new that stands still -/
theorem ext_new (s : HSim K G al H h) {p : Addr} {o : L2.HO} (e : H p = none) : Ext al H al (L2.upd H p o) :=
  ⟨⟨[], AL.app_nil⟩, fun a u q _ => by rw [L2.upd_ne (L2.ne_of_none q e)]; exact q, fun _ h n => absurd h n, fun a ha => by
    obtain ⟨u, q⟩ := (s.fen a ha).2
    rw [L2.upd_ne (L2.ne_of_none q e)], fun a x u _ q => by rw [L2.upd_ne (L2.ne_of_none q e)]; exact q⟩
theorem HSim.new (s : HSim K G al H h) {p : Addr} {o : L2.HO} (e : H p = none) : HSim K G al (L2.upd H p o) h :=
  s.same (ext_new s e) fun a ha => L2.upd_ne fun z => s.out e (z ▸ ha)
/-- a new object that changes -/
theorem ext_add (s : HSim K G al H h) {p : Addr} {o : L2.HO} (e : H p = none) : Ext al H (al ++ [p]) (L2.upd H p o) :=
  ⟨⟨[p], rfl⟩, fun a u q _ => by rw [L2.upd_ne (L2.ne_of_none q e)]; exact q, fun a h n => by
    rcases AL.mem_app h with q | q
    · exact absurd q n
    · rw [List.mem_singleton.mp q]; exact e, fun a ha => by
    obtain ⟨u, q⟩ := (s.fen a ha).2
    rw [L2.upd_ne (L2.ne_of_none q e)], fun a x u _ q => by rw [L2.upd_ne (L2.ne_of_none q e)]; exact q⟩
theorem nodup_add {al : List Addr} {p : Addr} (nd : al.Nodup) (n : p ∉ al) : (al ++ [p]).Nodup := by
  rw [List.nodup_append]
  exact ⟨nd, by simp, fun a ha b hb e => n (by rw [← List.mem_singleton.mp hb, ← e]; exact ha)⟩
theorem ext_adopt {p : Addr} {o : L2.HO} (n : p ∉ al) (e : H p = none ∨ ∃ kvs, H p = some (.dK kvs)) : ExtW al H (al ++ [p]) (L2.upd H p o) :=
  ⟨⟨[p], rfl⟩, fun a u nd q na => by
    have ne : a ≠ p := fun z => by
      subst z
      rcases e with e | ⟨kvs, e⟩
      · rw [e] at q; cases q
      · rw [e] at q; cases q; exact nd _ rfl
    exact ⟨by rw [L2.upd_ne ne]; exact q, fun h => by
      rcases AL.mem_app h with z | z
      · exact na z
      · exact ne (List.mem_singleton.mp z)⟩⟩
theorem HSim.adopt (s : HSim K G al H h) {p : Addr} {o : L2.HO} {u : MO} (np : p ∉ al) (e : H p = none ∨ ∃ kvs, H p = some (.dK kvs)) (r : ObjR K G (L2.upd H p o) (al ++ [p]) p u) :
    HSim K G (al ++ [p]) (L2.upd H p o) (h ++ [u]) := by
  have x := ext_adopt (o := o) np e
  have sl : al.l.length = h.length := s.len
  have np1 : p ∉ al.l := fun z => np (.inl z)
  refine ⟨by show (al.l ++ [p]).length = _; simp [sl], nodup_add s.nd np1, fun a ha => ?_, fun n a m e1 e2 => ?_⟩
  · have ha : a ∈ al.f := ha
    have nap : a ≠ p := fun z => np (z ▸ .inr ha)
    refine ⟨fun z => ?_, by rw [L2.upd_ne nap]; exact (s.fen a ha).2⟩
    rcases List.mem_append.mp z with z | z
    · exact (s.fen a ha).1 z
    · exact nap (List.mem_singleton.mp z)
  have e1 : (al.l ++ [p])[n]? = some a := e1
  by_cases hn : n < al.l.length
  · rw [List.getElem?_append_left hn] at e1
    rw [List.getElem?_append_left (by rw [← sl]; exact hn)] at e2
    have r' := s.obj n a m e1 e2
    have hm : a ∈ al := AL.mem_at (A := al) e1
    have ea : L2.upd H p o a = H a := L2.upd_ne fun z => np (z ▸ hm)
    cases m with
    | lst ws => obtain ⟨vs, q, r⟩ := r'; exact ⟨vs, ea.trans q, r.monoW x⟩
    | dic ws => obtain ⟨vs, q, r⟩ := r'; exact ⟨vs, ea.trans q, r.monoW x⟩
    | fdic ws => obtain ⟨od, vs, q, r⟩ := r'; exact ⟨od, vs, ea.trans q, r.monoW x⟩
    | ins c fs =>
      obtain ⟨C, dx, gs, q0, q, nn, r⟩ := r'
      exact ⟨C, dx, gs, q0, ea.trans q, x.keep _ _ nd_own nn.1 nn.2, r.monoW x⟩
  · have h1 : n = al.l.length := by
      have := (List.getElem?_eq_some_iff.mp e1).1
      simp at this; omega
    subst h1
    rw [List.getElem?_append_right (Nat.le_refl _), Nat.sub_self] at e1
    rw [List.getElem?_append_right (by rw [sl]; exact Nat.le_refl _), sl, Nat.sub_self] at e2
    simp only [List.getElem?_cons_zero, Option.some.injEq] at e1 e2
    subst e1 e2
    exact r
theorem HSim.add (s : HSim K G al H h) {p : Addr} {o : L2.HO} {u : MO} (e : H p = none) (r : ObjR K G (L2.upd H p o) (al ++ [p]) p u) : HSim K G (al ++ [p]) (L2.upd H p o) (h ++ [u]) :=
  s.adopt (s.out e) (.inl e) r
/-- an object that changes is written -/
def isFz : L2.HO → Bool
  | .frz _ _ => true
  | _ => false
theorem ext_set (s : HSim K G al H h) {n : Nat} {a : Addr} {o u : L2.HO} (e : al[n]? = some a) (hu : H a = some u) (nf : isFz u = false := by rfl) : Ext al H al (L2.upd H a o) :=
  ⟨⟨[], AL.app_nil⟩, fun b u q n => by rw [L2.upd_ne fun z => n (by rw [z]; exact AL.mem_at e)]; exact q, fun _ h n => absurd h n, fun b hb => by
    rw [L2.upd_ne fun z => (s.fen b hb).1 (by rw [z]; exact List.mem_iff_getElem?.mpr ⟨_, e⟩)], fun b x v _ q => by
    rw [L2.upd_ne fun z => by
      subst z
      rw [hu] at q
      cases q
      cases nf]; exact q⟩
theorem extW_set {n : Nat} {a : Addr} {o : L2.HO} (e : al[n]? = some a) : ExtW al H al (L2.upd H a o) :=
  ⟨⟨[], AL.app_nil⟩, fun b u _ q n => ⟨by rw [L2.upd_ne fun z => n (by rw [z]; exact AL.mem_at e)]; exact q, n⟩⟩
theorem HSim.set (s : HSim K G al H h) {n : Nat} {a : Addr} {o : L2.HO} {u : MO} (e : al[n]? = some a) (r : ObjR K G (L2.upd H a o) al a u) : HSim K G al (L2.upd H a o) (setAt h n u) := by
  have hm : a ∈ al := AL.mem_at e
  have x : ExtW al H al (L2.upd H a o) := extW_set e
  have sl : al.l.length = h.length := s.len
  refine ⟨by show al.l.length = _; simp [setAt, sl], s.nd, fun b hb => ⟨(s.fen b hb).1, by rw [L2.upd_ne fun z => (s.fen b hb).1 (by rw [z]; exact List.mem_iff_getElem?.mpr ⟨_, e⟩)]; exact (s.fen b hb).2⟩, fun m b v e1 e2 => ?_⟩
  unfold setAt at e2
  by_cases hmn : m = n
  · subst hmn
    rw [e] at e1; cases e1
    rw [List.getElem?_set_self (by rw [← sl]; exact (List.getElem?_eq_some_iff.mp e).1)] at e2
    cases e2
    exact r
  · rw [List.getElem?_set_ne (Ne.symm hmn)] at e2
    have ne : b ≠ a := fun z => by
      subst z
      obtain ⟨h1, g1⟩ := List.getElem?_eq_some_iff.mp e
      obtain ⟨h2, g2⟩ := List.getElem?_eq_some_iff.mp e1
      exact hmn ((List.getElem_inj s.nd).mp (g2.trans g1.symm))
    have eb : L2.upd H a o b = H b := L2.upd_ne ne
    have r' := s.obj m b v e1 e2
    cases v with
    | lst ws => obtain ⟨vs, q, r⟩ := r'; exact ⟨vs, eb.trans q, r.monoW x⟩
    | dic ws => obtain ⟨vs, q, r⟩ := r'; exact ⟨vs, eb.trans q, r.monoW x⟩
    | fdic ws => obtain ⟨od, vs, q, r⟩ := r'; exact ⟨od, vs, eb.trans q, r.monoW x⟩
    | ins c fs => obtain ⟨C, dx, gs, q0, q, nn, r⟩ := r'; exact ⟨C, dx, gs, q0, eb.trans q, x.keep _ _ nd_own nn.1 nn.2, r.monoW x⟩
end
end Py

namespace Py
open PySem (Addr Value Obj PyData)
mutual
def W.toD : W → PyData
  | .non => .none
  | .bl b => .bool b
  | .int i => .int i
  | .str s => .str (S s)
  | .tup xs => .tuple (toDs xs)
  | .lst xs => .list (toDs xs)
  | .ref _ => .none
  | .scr _ => .none
def toDs : List W → List PyData
  | [] => []
  | x :: xs => x.toD :: toDs xs
end
theorem S_ok (s : String) : PyData.strOk (S s) = true := by
  unfold PyData.strOk S
  rw [PySem.Str.ofString_eq_toList]
  rw [← Array.all_toList, List.all_eq_true]
  intro n hn
  obtain ⟨c, _, rfl⟩ := List.mem_map.mp hn
  have hc : c.val.toNat < 1114112 := by
    have h := c.valid
    simp only [UInt32.isValidChar, Nat.isValidChar] at h
    omega
  exact decide_eq_true hc
mutual
theorem canLay_toD : ∀ w : W, w.toD.canLay0 = true
  | .non => by simp [W.toD, PyData.canLay0]
  | .bl b => by simp [W.toD, PyData.canLay0]
  | .int i => by simp [W.toD, PyData.canLay0]
  | .str s => by simp [W.toD, PyData.canLay0, S_ok]
  | .tup xs => by simp only [W.toD, PyData.canLay0]; exact canLay_toDs xs
  | .lst xs => by simp only [W.toD, PyData.canLay0]; exact canLay_toDs xs
  | .ref _ => by simp [W.toD, PyData.canLay0]
  | .scr _ => by simp [W.toD, PyData.canLay0]
theorem canLay_toDs : ∀ ws : List W, PyData.canLayAll0 (toDs ws) = true
  | [] => by simp [toDs, PyData.canLayAll0]
  | x :: xs => by simp only [toDs, PyData.canLayAll0, Bool.and_eq_true]; exact ⟨canLay_toD x, canLay_toDs xs⟩
end
mutual
theorem depth_toD : ∀ w : W, w.toD.depth = w.depth
  | .non => by simp [W.toD, PyData.depth, W.depth]
  | .bl b => by simp [W.toD, PyData.depth, W.depth]
  | .int i => by simp [W.toD, PyData.depth, W.depth]
  | .str s => by simp [W.toD, PyData.depth, W.depth]
  | .tup xs => by simp only [W.toD, PyData.depth, W.depth]; rw [depth_toDs xs]
  | .lst xs => by simp only [W.toD, PyData.depth, W.depth]; rw [depth_toDs xs]
  | .ref _ => by simp [W.toD, PyData.depth, W.depth]
  | .scr _ => by simp [W.toD, PyData.depth, W.depth]
theorem depth_toDs : ∀ ws : List W, PyData.depthAll (toDs ws) = depthAll ws
  | [] => by simp [toDs, PyData.depthAll, depthAll]
  | x :: xs => by simp only [toDs, PyData.depthAll, depthAll]; rw [depth_toD x, depth_toDs xs]
end
theorem S_beq (s t : String) : (S s == S t) = (s == t) := by
  by_cases h : s = t
  · subst h; simp
  · have h1 : S s ≠ S t := fun e => h (S_inj e)
    rw [beq_eq_false_iff_ne.mpr h, beq_eq_false_iff_ne.mpr h1]
mutual
theorem eqv_toD : ∀ a b : W, a.pure = true → b.pure = true → PyData.eqv a.toD b.toD = a.eqv b
  | a, b, ha, hb => by
    cases a <;> cases b <;> simp only [W.pure, Bool.false_eq_true] at ha hb <;> simp only [W.toD, PyData.eqv, W.eqv, S_beq]
    · exact eqv_toDs _ _ ha hb
    · exact eqv_toDs _ _ ha hb
theorem eqv_toDs : ∀ a b : List W, pureAll a = true → pureAll b = true → PyData.eqvAll (toDs a) (toDs b) = eqvAll a b
  | [], [], _, _ => by simp [toDs, PyData.eqvAll, eqvAll]
  | [], _ :: _, _, _ => by simp [toDs, PyData.eqvAll, eqvAll]
  | _ :: _, [], _, _ => by simp [toDs, PyData.eqvAll, eqvAll]
  | x :: xs, y :: ys, ha, hb => by
    simp only [pureAll, Bool.and_eq_true] at ha hb
    simp only [toDs, PyData.eqvAll, eqvAll]
    rw [eqv_toD x y ha.1 hb.1, eqv_toDs xs ys ha.2 hb.2]
end
section
variable {K : Frag} {G : Gt} {al : AL} {H : Hp} {h : MH}
mutual
theorem Rep.dp : ∀ {w : W} {v : HV}, Rep K H al v w → w.pure = true → L2.Dp K H v w.toD
  | _, _, .non, _ => by simp only [W.toD]; exact .non
  | _, _, .bl b, _ => by simp only [W.toD]; exact .bl b
  | _, _, .int i, _ => by simp only [W.toD]; exact .int i
  | _, _, .str s, _ => by simp only [W.toD]; exact .str _
  | _, _, .tup q r, p => by simp only [W.toD]; exact .tup q.sq (RepL.dp r (by simpa [W.pure] using p))
  | _, _, .lst q r, p => by simp only [W.toD]; exact .lst q.sq (RepL.dp r (by simpa [W.pure] using p))
  | _, _, .ref _, p => by simp [W.pure] at p
  | _, _, .scr _, p => by simp [W.pure] at p
theorem RepL.dp : ∀ {ws : List W} {vs : List HV}, RepL K H al vs ws → pureAll ws = true → L2.DpAll K H vs (toDs ws)
  | _, _, .nil, _ => by simp only [toDs]; exact .nil
  | _, _, .cons r t, p => by
    simp only [pureAll, Bool.and_eq_true] at p
    simp only [toDs]
    exact .cons (Rep.dp r p.1) (RepL.dp t p.2)
end
/-- a list that changes, as it stands -/
theorem deref_cases (w : W) : deref h w = w ∨ ∃ n xs, w = .ref n ∧ h[n]? = some (.lst xs) ∧ deref h w = .lst xs := by
  cases w with
  | ref n =>
    cases e : h[n]? with
    | none => left; simp [deref, e]
    | some o => cases o with
      | lst xs => right; exact ⟨n, xs, rfl, e, by simp [deref, e]⟩
      | dic _ => left; simp [deref, e]
      | ins _ _ => left; simp [deref, e]
      | fdic _ => left; simp [deref, e]
  | _ => left; rfl
theorem deref_dp (s : HSim K G al H h) {v : HV} {w : W} (r : Rep K H al v w) (p : (deref h w).pure = true) : L2.Dp K H v (deref h w).toD := by
  rcases deref_cases (h := h) w with e | ⟨n, xs, rfl, e1, e2⟩
  · rw [e] at p ⊢; exact r.dp p
  · rw [e2] at p ⊢
    cases r with
    | ref e =>
      obtain ⟨vs, e3, r⟩ := s.obj _ _ _ e e1
      simp only [W.toD]
      exact .lst (.inl (.inl e3)) (r.dp (by simpa [W.pure] using p))
end
section
variable {X : L2.Cx}
open PySem in
theorem op_eqW (hu : X.A.units + 200 < cLine) : L2.OpR X (compareOp .Eq) (fun x y H Q => ∃ a b : W, L2.Dp X.K H x a.toD ∧ L2.Dp X.K H y b.toD ∧ min a.depth b.depth ≤ 64 ∧ Q (.bl (PyData.eqv a.toD b.toD)) H) := by
  intro pins s σ H x y v u Q I rx ry h
  obtain ⟨a, b, hd, he, hm, q⟩ := h
  obtain ⟨as, r1⟩ := L2.Dp.reads I a.toD x v hd rx
  obtain ⟨bs, r2⟩ := L2.Dp.reads I b.toD y u he ry
  exact SeqAt.compareEq_reads r1 r2 (canLay_toD a) (canLay_toD b) (by rw [depth_toD, depth_toD]; omega) ⟨.bl _, H, I, rfl, q⟩
open PySem in
theorem op_neW (hu : X.A.units + 200 < cLine) : L2.OpR X (compareOp .NotEq) (fun x y H Q => ∃ a b : W, L2.Dp X.K H x a.toD ∧ L2.Dp X.K H y b.toD ∧ min a.depth b.depth ≤ 64 ∧ Q (.bl (!PyData.eqv a.toD b.toD)) H) := by
  intro pins s σ H x y v u Q I rx ry h
  obtain ⟨a, b, hd, he, hm, q⟩ := h
  obtain ⟨as, r1⟩ := L2.Dp.reads I a.toD x v hd rx
  obtain ⟨bs, r2⟩ := L2.Dp.reads I b.toD y u he ry
  exact SeqAt.compareNe_reads r1 r2 (canLay_toD a) (canLay_toD b) (by rw [depth_toD, depth_toD]; omega) ⟨.bl _, H, I, rfl, q⟩
/-- in, not in a tuple or a list -/
def rInW (K : Frag) (neg : Bool) : L2.R2 := fun x y H Q => ∃ (a : W) (bs : List W), L2.Dp K H x a.toD ∧ (L2.Dp K H y (.tuple (toDs bs)) ∨ L2.Dp K H y (.list (toDs bs))) ∧ min (depthAll bs) a.depth ≤ 62 ∧
  Q (.bl (if neg then !(toDs bs).any fun z => PyData.eqv z a.toD else (toDs bs).any fun z => PyData.eqv z a.toD)) H
open PySem in
theorem op_inW (hu : X.A.units + 200 < cLine) : L2.OpR X (compareOp .In) (rInW X.K false) := by
  intro pins s σ H x y v u Q I rx ry h
  obtain ⟨a, b, hd, he | he, hm, q⟩ := h
  · obtain ⟨as, r1⟩ := L2.Dp.reads I a.toD x v hd rx
    obtain ⟨bs, r2⟩ := L2.Dp.reads I _ y u he ry
    exact SeqAt.in_tuple_reads r2 r1 (canLay_toDs b) (canLay_toD a) (by rw [depth_toD, depth_toDs]; omega) ⟨.bl _, H, I, rfl, q⟩
  · obtain ⟨as, r1⟩ := L2.Dp.reads I a.toD x v hd rx
    obtain ⟨bs, r2⟩ := L2.Dp.reads I _ y u he ry
    exact SeqAt.in_list_reads r2 r1 (canLay_toDs b) (canLay_toD a) (by rw [depth_toD, depth_toDs]; omega) ⟨.bl _, H, I, rfl, q⟩
open PySem in
theorem op_notInW (hu : X.A.units + 200 < cLine) : L2.OpR X (compareOp .NotIn) (rInW X.K true) := by
  intro pins s σ H x y v u Q I rx ry h
  obtain ⟨a, b, hd, he | he, hm, q⟩ := h
  · obtain ⟨as, r1⟩ := L2.Dp.reads I a.toD x v hd rx
    obtain ⟨bs, r2⟩ := L2.Dp.reads I _ y u he ry
    exact SeqAt.notIn_tuple_reads r2 r1 (canLay_toDs b) (canLay_toD a) (by rw [depth_toD, depth_toDs]; omega) ⟨.bl _, H, I, rfl, q⟩
  · obtain ⟨as, r1⟩ := L2.Dp.reads I a.toD x v hd rx
    obtain ⟨bs, r2⟩ := L2.Dp.reads I _ y u he ry
    exact SeqAt.notIn_list_reads r2 r1 (canLay_toDs b) (canLay_toD a) (by rw [depth_toD, depth_toDs]; omega) ⟨.bl _, H, I, rfl, q⟩
end
theorem any_toDs (a : W) (ha : a.pure = true) : ∀ bs : List W, pureAll bs = true → ((toDs bs).any fun z => PyData.eqv z a.toD) = bs.any fun y => y.eqv a
  | [], _ => by simp [toDs]
  | b :: bs, h => by
    simp only [pureAll, Bool.and_eq_true] at h
    simp only [toDs, List.any_cons]
    rw [eqv_toD b a h.1 ha, any_toDs a ha bs h.2]
end Py

namespace Py
open PySem (Addr Value Obj Expr Pos)
abbrev WX := L2.WX
/-- an exception of the evaluator's and the layer's -/
def XRep (K : Frag) (G : Gt) (H : Hp) (al : AL) (cls : Value) (d : Option Addr) (c : Nat) (fs : List (Nat × W)) : Prop :=
  ∃ C, G.xcl c = some C ∧ cls = .ref C ∧ ((fs = [] ∧ d = none) ∨ fs ≠ [] ∧ ∃ dd gs, d = some dd ∧ dd ∉ al ∧ H dd = some (.xd gs) ∧ RepF K G H al gs fs)
def ESim (K : Frag) (H : Hp) (al : AL) (σ : L2.St) (ρ : Env) : Prop := ρ.length = σ.length ∧ ∀ (i : Nat) (w : W), ρ[i]? = some (some w) → ∃ v, σ[i]? = some (some v) ∧ Rep K H al v w
/-- the caught exception -/
def XSim (X : L2.Cx) (G : Gt) (H : Hp) (al : AL) (σ : L2.St) : Option (Nat × Nat × List (Nat × W)) → Prop
  | none => True
  | some (i, c, fs) => ∃ a oe vs, (a, oe) ∈ X.pn ∧ σ[i]? = some (some (.ref a)) ∧ oe.data = .fields vs ∧ (PySem.PXN.CtxN oe ∧ X.A.handled = some (.ref a)) ∧ XRep X.K G H al oe.cls oe.dict c fs
def PostE {β : Type} (K : Frag) (G : Gt) (W' : WX) (σ : L2.St) (al : AL) (H : Hp) (r : Res β) (R : AL → Hp → β → MH → Prop) : Prop := match r with
  | .ok b h' => ∀ al' H', Ext al H al' H' → HSim K G al' H' h' → R al' H' b h'
  | .exc c fs h' => ∀ al' H' cls d, Ext al H al' H' → HSim K G al' H' h' → XRep K G H' al' cls d c fs → W' cls d σ H'
  | .bad => False
section
variable {K : Frag} {G : Gt} {al al1 : AL} {H H1 : Hp} {σ : L2.St} {ρ : Env} {W' : WX}
theorem XRep.mono (x : Ext al H al1 H1) {cls : Value} {d : Option Addr} {c : Nat} {fs : List (Nat × W)} (r : XRep K G H al cls d c fs) : XRep K G H1 al1 cls d c fs := by
  obtain ⟨C, e1, e2, r⟩ := r
  refine ⟨C, e1, e2, r.imp id ?_⟩
  rintro ⟨ne, dd, gs, e, n, q, r⟩
  exact ⟨ne, dd, gs, e, x.out q n, x.keep _ _ q n, r.mono x⟩
theorem ESim.mono (x : Ext al H al1 H1) (e : ESim K H al σ ρ) : ESim K H1 al1 σ ρ := ⟨e.1, fun i w q => by
  obtain ⟨v, q1, r⟩ := e.2 i w q
  exact ⟨v, q1, r.mono x⟩⟩
theorem XSim.mono {X : L2.Cx} (x : Ext al H al1 H1) {xc : Option (Nat × Nat × List (Nat × W))} (e : XSim X G H al σ xc) : XSim X G H1 al1 σ xc := by
  match xc with
  | none => trivial
  | some (i, c, fs) =>
    obtain ⟨a, oe, vs, h1, h2, h3, h5, h4⟩ := e
    exact ⟨a, oe, vs, h1, h2, h3, h5, h4.mono x⟩
theorem PostE.ext {β : Type} (x : Ext al H al1 H1) {r : Res β} {R : AL → Hp → β → MH → Prop} (p : PostE K G W' σ al H r R) : PostE K G W' σ al1 H1 r R := by
  cases r with
  | ok b h => exact fun al' H' y s => p al' H' (x.trans y) s
  | exc c fs h => exact fun al' H' cls d y s q => p al' H' cls d (x.trans y) s q
  | bad => exact p
theorem PostE.imp {β : Type} {r : Res β} {R R' : AL → Hp → β → MH → Prop} (p : PostE K G W' σ al H r R) (f : ∀ al' H' b h', Ext al H al' H' → HSim K G al' H' h' → R al' H' b h' → R' al' H' b h') : PostE K G W' σ al H r R' := by
  cases r with
  | ok b h => exact fun al' H' y s => f _ _ _ _ y s (p al' H' y s)
  | exc c fs h => exact p
  | bad => exact p
/-- what follows is asked at what came -/
theorem PostE.bind {β γ : Type} {r : Res β} {f : β → MH → Res γ} {R : AL → Hp → γ → MH → Prop} (p : PostE K G W' σ al H (r.bind f) R) :
    PostE K G W' σ al H r fun al1 H1 b h1 => PostE K G W' σ al1 H1 (f b h1) R := by
  cases r with
  | ok b h => exact fun al' H' x _ => PostE.ext x p
  | exc c fs h => exact p
  | bad => exact p
end

abbrev EM (β : Type) := Env → MH → Res β
section
variable (X : L2.Cx) (G : Gt) (xc : Option (Nat × Nat × List (Nat × W))) (W' : WX)
def rdE (m : EM W) : L2.TE := fun σ H Q => ∃ al ρ h, HSim X.K G al H h ∧ ESim X.K H al σ ρ ∧ XSim X G H al σ xc ∧ PostE X.K G W' σ al H (m ρ h) fun al' H' w _ => ∀ v, Rep X.K H' al' v w → Q v H'
def rdT (m : EM Bool) : L2.TT := fun σ H Q => ∃ al ρ h, HSim X.K G al H h ∧ ESim X.K H al σ ρ ∧ XSim X G H al σ xc ∧ PostE X.K G W' σ al H (m ρ h) fun _ H' b _ => Q b H'
def rdA (m : EM (List W)) : L2.TA := fun σ H Q => ∃ al ρ h, HSim X.K G al H h ∧ ESim X.K H al σ ρ ∧ XSim X G H al σ xc ∧ PostE X.K G W' σ al H (m ρ h) fun al' H' ws _ => ∀ vs, RepL X.K H' al' vs ws → Q vs H'
def SE (e : Expr) (m : EM W) : Prop := ∀ W', L2N.Takes X W' → L2.PE X e (rdE X G xc W' m)
def ST (e : Expr) (m : EM Bool) : Prop := ∀ W', L2N.Takes X W' → L2.PT X e (rdT X G xc W' m)
def SA (es : List Expr) (m : EM (List W)) : Prop := ∀ W', L2N.Takes X W' → L2.PA X es (rdA X G xc W' m)
end
theorem pe_imp {X : L2.Cx} {e : Expr} {t t' : L2.TE} (h : L2.PE X e t) (f : ∀ σ H Q, t' σ H Q → t σ H Q) : L2.PE X e t' := ⟨fun pins s σ H Q I q => h.run pins s σ H Q I (f _ _ _ q)⟩
theorem pt_imp {X : L2.Cx} {e : Expr} {t t' : L2.TT} (h : L2.PT X e t) (f : ∀ σ H Q, t' σ H Q → t σ H Q) : L2.PT X e t' := ⟨fun pins s σ H Q I q => h.run pins s σ H Q I (f _ _ _ q)⟩
theorem pw_imp {X : L2.Cx} {e : Expr} {t t' : L2.TT} (h : L2.PW X e t) (f : ∀ σ H Q, t' σ H Q → t σ H Q) : L2.PW X e t' := ⟨fun wh pins s σ H Q I q => h.run wh pins s σ H Q I (f _ _ _ q)⟩
theorem pa_imp {X : L2.Cx} {es : List Expr} {t t' : L2.TA} (h : L2.PA X es t) (f : ∀ σ H Q, t' σ H Q → t σ H Q) : L2.PA X es t' := ⟨fun pos pins s σ H Q I q => h.run pos pins s σ H Q I (f _ _ _ q)⟩
theorem ps_imp {X : L2.Cx} {e : PySem.Stmt} {t t' : L2.TS} (h : L2.PS X e t) (f : ∀ D σ H, t' D σ H → t D σ H) : L2.PS X e t' := ⟨fun pins s σ H D I q => h.run pins s σ H D I (f _ _ _ q)⟩
theorem pss_imp {X : L2.Cx} {e : List PySem.Stmt} {t t' : L2.TS} (h : L2.PSs X e t) (f : ∀ D σ H, t' D σ H → t D σ H) : L2.PSs X e t' := ⟨fun pins s σ H D I q => h.run pins s σ H D I (f _ _ _ q)⟩
theorem pe_no {X : L2.Cx} {e : Expr} {t : L2.TE} (f : ∀ σ H Q, ¬ t σ H Q) : L2.PE X e t := ⟨fun _ _ _ _ _ _ q => absurd q (f _ _ _)⟩
section
variable {X : L2.Cx} {G : Gt} {xc : Option (Nat × Nat × List (Nat × W))} {W' : WX} {σ : L2.St} {H : Hp} {al : AL} {ρ : Env} {h : MH}
/-- the state of the evaluator beside the layer's -/
structure At (X : L2.Cx) (G : Gt) (xc : Option (Nat × Nat × List (Nat × W))) (σ : L2.St) (H : Hp) (al : AL) (ρ : Env) (h : MH) : Prop where
  hs : HSim X.K G al H h
  es : ESim X.K H al σ ρ
  xs : XSim X G H al σ xc
theorem At.next (a : At X G xc σ H al ρ h) {al1 : AL} {H1 : Hp} {h1 : MH} (x : Ext al H al1 H1) (hs : HSim X.K G al1 H1 h1) : At X G xc σ H1 al1 ρ h1 := ⟨hs, a.es.mono x, a.xs.mono x⟩
theorem rd_bind {γ : Type} {m : EM W} {f : W → MH → Res γ} {R : AL → Hp → γ → MH → Prop} {Q : HV → Hp → Prop} (a : At X G xc σ H al ρ h) (p : PostE X.K G W' σ al H ((m ρ h).bind f) R)
    (k : ∀ al1 H1 w h1 v, Ext al H al1 H1 → At X G xc σ H1 al1 ρ h1 → Rep X.K H1 al1 v w → PostE X.K G W' σ al1 H1 (f w h1) R → Q v H1) : rdE X G xc W' m σ H Q :=
  ⟨al, ρ, h, a.hs, a.es, a.xs, p.bind.imp fun al' H' w h' x s q v r => k al' H' w h' v x (a.next x s) r q⟩
theorem rd_bindA {γ : Type} {m : EM (List W)} {f : List W → MH → Res γ} {R : AL → Hp → γ → MH → Prop} {Q : List HV → Hp → Prop} (a : At X G xc σ H al ρ h) (p : PostE X.K G W' σ al H ((m ρ h).bind f) R)
    (k : ∀ al1 H1 ws h1 vs, Ext al H al1 H1 → At X G xc σ H1 al1 ρ h1 → RepL X.K H1 al1 vs ws → PostE X.K G W' σ al1 H1 (f ws h1) R → Q vs H1) : rdA X G xc W' m σ H Q :=
  ⟨al, ρ, h, a.hs, a.es, a.xs, p.bind.imp fun al' H' w h' x s q v r => k al' H' w h' v x (a.next x s) r q⟩
theorem rd_bindT {γ : Type} {m : EM Bool} {f : Bool → MH → Res γ} {R : AL → Hp → γ → MH → Prop} {Q : Bool → Hp → Prop} (a : At X G xc σ H al ρ h) (p : PostE X.K G W' σ al H ((m ρ h).bind f) R)
    (k : ∀ al1 H1 w h1, Ext al H al1 H1 → At X G xc σ H1 al1 ρ h1 → PostE X.K G W' σ al1 H1 (f w h1) R → Q w H1) : rdT X G xc W' m σ H Q :=
  ⟨al, ρ, h, a.hs, a.es, a.xs, p.bind.imp fun al' H' w h' x s q => k al' H' w h' x (a.next x s) q⟩
theorem rd_at {m : EM W} {Q : HV → Hp → Prop} (q : rdE X G xc W' m σ H Q) : ∃ al ρ h, At X G xc σ H al ρ h ∧ PostE X.K G W' σ al H (m ρ h) fun al' H' w _ => ∀ v, Rep X.K H' al' v w → Q v H' := by
  obtain ⟨al, ρ, h, a, b, c, p⟩ := q
  exact ⟨al, ρ, h, ⟨a, b, c⟩, p⟩
theorem rd_atT {m : EM Bool} {Q : Bool → Hp → Prop} (q : rdT X G xc W' m σ H Q) : ∃ al ρ h, At X G xc σ H al ρ h ∧ PostE X.K G W' σ al H (m ρ h) fun al' H' b _ => Q b H' := by
  obtain ⟨al, ρ, h, a, b, c, p⟩ := q
  exact ⟨al, ρ, h, ⟨a, b, c⟩, p⟩
theorem rd_atA {m : EM (List W)} {Q : List HV → Hp → Prop} (q : rdA X G xc W' m σ H Q) : ∃ al ρ h, At X G xc σ H al ρ h ∧ PostE X.K G W' σ al H (m ρ h) fun al' H' ws _ => ∀ vs, RepL X.K H' al' vs ws → Q vs H' := by
  obtain ⟨al, ρ, h, a, b, c, p⟩ := q
  exact ⟨al, ρ, h, ⟨a, b, c⟩, p⟩
theorem rd_of {m : EM W} {Q : HV → Hp → Prop} (a : At X G xc σ H al ρ h) (p : PostE X.K G W' σ al H (m ρ h) fun al' H' w _ => ∀ v, Rep X.K H' al' v w → Q v H') : rdE X G xc W' m σ H Q := ⟨al, ρ, h, a.hs, a.es, a.xs, p⟩
theorem rd_ofT {m : EM Bool} {Q : Bool → Hp → Prop} (a : At X G xc σ H al ρ h) (p : PostE X.K G W' σ al H (m ρ h) fun al' H' b _ => Q b H') : rdT X G xc W' m σ H Q := ⟨al, ρ, h, a.hs, a.es, a.xs, p⟩
theorem rd_ofA {m : EM (List W)} {Q : List HV → Hp → Prop} (a : At X G xc σ H al ρ h) (p : PostE X.K G W' σ al H (m ρ h) fun al' H' ws _ => ∀ vs, RepL X.K H' al' vs ws → Q vs H') : rdA X G xc W' m σ H Q := ⟨al, ρ, h, a.hs, a.es, a.xs, p⟩
/-- the end: the value came, the heap as it was -/
theorem PostE.fin {R : AL → Hp → W → MH → Prop} {w : W} (a : At X G xc σ H al ρ h) (p : PostE X.K G W' σ al H (.ok w h) R) : R al H w h := p al H .refl a.hs
end

section
variable {X : L2.Cx} {G : Gt} {T : Tb} {k : Cxt} {pos : Pos}
theorem se_var {i : Nat} {x : PySem.Str} (hN : X.N[i]? = some x) (hv : L2.Vis X.env.scope x) (hd : (x == ("__debug__" : PySem.Str)) = false) (hcd : (x == ("__classdict__" : PySem.Str)) = false) : SE X G k.xc (.Name x pos) (ev T k (.var i)) := fun W' tk => by
  refine pe_imp (L2.pe_var hN hv hd hcd) fun σ H Q q => ?_
  obtain ⟨al, ρ, h, a, p⟩ := rd_at q
  simp only [ev] at p
  split at p
  · rename_i w e
    obtain ⟨v, e1, r⟩ := a.es.2 i w e
    exact ⟨v, e1, p.fin a v r⟩
  · exact p.elim
theorem se_cst {c : PySem.Const} {j : Nat} {w : W} {v : HV} (hp : L2.PE X (.Constant c j pos) (L2.tC v)) (r : ∀ H al, Rep X.K H al v w) : SE X G k.xc (.Constant c j pos) (ev T k (.cst w)) := fun W' tk => by
  refine pe_imp hp fun σ H Q q => ?_
  obtain ⟨al, ρ, h, a, p⟩ := rd_at q
  simp only [ev] at p
  exact p.fin a v (r H al)
theorem se_int {i : Int} {j : Nat} : SE X G k.xc (.Constant (.int i) j pos) (ev T k (.cst (.int i))) := se_cst L2.pe_int fun _ _ => .int i
theorem se_bool {i : Bool} {j : Nat} : SE X G k.xc (.Constant (.bool i) j pos) (ev T k (.cst (.bl i))) := se_cst L2.pe_bl fun _ _ => .bl i
theorem se_none {j : Nat} : SE X G k.xc (.Constant .none j pos) (ev T k (.cst .non)) := se_cst L2.pe_non fun _ _ => .non
theorem se_str {s : String} {j : Nat} : SE X G k.xc (.Constant (.str (S s)) j pos) (ev T k (.cst (.str s))) := se_cst L2.pe_str fun _ _ => .str s
/-- a global that holds data -/
theorem se_glob {x : PySem.Str} {v : HV} {u : Value} {w : W} (hg : L2.Gl X x) (hm : X.mg x = some u) (r : L2.RelV v u) (hd : (x == ("__debug__" : PySem.Str)) = false) (rw_ : ∀ H al, Rep X.K H al v w) : SE X G k.xc (.Name x pos) (ev T k (.cst w)) := fun W' tk => by
  refine pe_imp (L2.pe_glob hg hm r hd) fun σ H Q q => ?_
  obtain ⟨al, ρ, h, a, p⟩ := rd_at q
  simp only [ev] at p
  exact p.fin a v (rw_ H al)
theorem sa_nil : SA X G k.xc [] (evs T k .nil) := fun W' tk => by
  refine pa_imp L2.pa_nil fun σ H Q q => ?_
  obtain ⟨al, ρ, h, a, p⟩ := rd_atA q
  simp only [evs] at p
  exact p al H .refl a.hs [] .nil
theorem sa_cons {e : Expr} {es : List Expr} {x as : Ex} (he : SE X G k.xc e (ev T k x)) (hr : SA X G k.xc es (evs T k as)) (hs : PySem.starEach (e :: es) X.env = (false, PySem.eval e X.env) :: PySem.starEach es X.env) : SA X G k.xc (e :: es) (evs T k (.cons x as)) := fun W' tk => by
  refine pa_imp (L2.pa_cons (he W' tk) (hr W' tk) hs) fun σ H Q q => ?_
  obtain ⟨al, ρ, h, a, p⟩ := rd_atA q
  simp only [evs] at p
  refine rd_bind a p fun al1 H1 w h1 v x1 a1 r1 p1 => ?_
  refine rd_bindA a1 p1 fun al2 H2 ws h2 vs x2 a2 r2 p2 => ?_
  exact p2 al2 H2 .refl a2.hs (v :: vs) (.cons (r1.mono x2) r2)
theorem lim_eq : LIM = PySem.sizeLine := by rw [PySem.sizeLine_eq]; rfl
theorem se_tup {es : List Expr} {as : Ex} {j : Nat} (h : SA X G k.xc es (evs T k as)) : SE X G k.xc (.Tuple es j pos) (ev T k (.tup as)) := fun W' tk => by
  refine pe_imp (L2.pe_tup (h W' tk)) fun σ H Q q => ?_
  obtain ⟨al, ρ, h, a, p⟩ := rd_at q
  simp only [ev] at p
  refine rd_bindA a p fun al1 H1 ws h1 vs x1 a1 r1 p1 => ?_
  split at p1
  · rename_i hl
    refine ⟨by rw [r1.length, ← lim_eq]; exact hl, fun pp hp => ?_⟩
    have hx := ext_new (o := .tup vs) a1.hs hp
    exact p1 al1 _ hx (a1.hs.new hp) (.ref pp) (.tup (.inl ⟨.inl L2.upd_same, a1.hs.out hp⟩) (r1.mono hx))
  · exact p1.elim
theorem se_lst {es : List Expr} {as : Ex} (h : SA X G k.xc es (evs T k as)) : SE X G k.xc (.List es pos) (ev T k (.lst as)) := fun W' tk => by
  refine pe_imp (L2.pe_lst (h W' tk)) fun σ H Q q => ?_
  obtain ⟨al, ρ, h, a, p⟩ := rd_at q
  simp only [ev] at p
  refine rd_bindA a p fun al1 H1 ws h1 vs x1 a1 r1 p1 => ?_
  split at p1
  · rename_i hl
    refine ⟨by rw [r1.length, ← lim_eq]; exact hl, fun pp hp => ?_⟩
    have hx := ext_new (o := .lst vs) a1.hs hp
    exact p1 al1 _ hx (a1.hs.new hp) (.ref pp) (.lst ⟨L2.upd_same, a1.hs.out hp⟩ (r1.mono hx))
  · exact p1.elim
theorem get_last {al : AL} {p : Addr} : (al ++ [p])[al.length]? = some p := by show (al.l ++ [p])[al.l.length]? = _; simp
theorem se_mls {es : List Expr} {as : Ex} (h : SA X G k.xc es (evs T k as)) : SE X G k.xc (.List es pos) (ev T k (.mls as)) := fun W' tk => by
  refine pe_imp (L2.pe_lst (h W' tk)) fun σ H Q q => ?_
  obtain ⟨al, ρ, h, a, p⟩ := rd_at q
  simp only [ev] at p
  refine rd_bindA a p fun al1 H1 ws h1 vs x1 a1 r1 p1 => ?_
  split at p1
  · rename_i hl
    refine ⟨by rw [r1.length, ← lim_eq]; exact hl, fun pp hp => ?_⟩
    have hx := ext_add (o := .lst vs) a1.hs hp
    exact p1 _ _ hx (a1.hs.add hp ⟨vs, L2.upd_same, r1.mono hx⟩) (.ref pp) (.ref (by rw [← a1.hs.len]; exact get_last))
  · exact p1.elim
end

section
variable {X : L2.Cx} {G : Gt} {T : Tb} {k : Cxt} {pos : Pos}
/-- an operator's rule serves the evaluator's operator -/
def OpS (X : L2.Cx) (G : Gt) (f : Value → Value → PySem.Sem Value) (g : MH → W → W → Option W) : Prop :=
  ∃ r, L2.OpR X f r ∧ ∀ al H h a b w v u (Q : HV → Hp → Prop), HSim X.K G al H h → Rep X.K H al v a → Rep X.K H al u b → g h a b = some w →
    (∀ al' H' z, Ext al H al' H' → HSim X.K G al' H' h → Rep X.K H' al' z w → Q z H') → r v u H Q
theorem se_bin {o : PySem.Operator} {b : Bop} {e1 e2 : Expr} {x1 x2 : Ex} (ho : OpS X G (PySem.binaryOp o) (wBin b)) (h1 : SE X G k.xc e1 (ev T k x1)) (h2 : SE X G k.xc e2 (ev T k x2)) : SE X G k.xc (.BinOp e1 o e2 pos) (ev T k (.bin b x1 x2)) := fun W' tk => by
  obtain ⟨r, hr, ho⟩ := ho
  refine pe_imp (L2.pe_op hr (h1 W' tk) (h2 W' tk)) fun σ H Q q => ?_
  obtain ⟨al, ρ, h, a, p⟩ := rd_at q
  simp only [ev] at p
  refine rd_bind a p fun al1 H1 w1 h1 v1 x1 a1 r1 p1 => ?_
  refine rd_bind a1 p1 fun al2 H2 w2 h2 v2 x2 a2 r2 p2 => ?_
  cases e : wBin b h2 w1 w2 with
  | none => rw [e] at p2; exact p2.elim
  | some w =>
    rw [e] at p2
    exact ho al2 H2 h2 w1 w2 w v1 v2 Q a2.hs (r1.mono x2) r2 e fun al' H' z x s r => p2 al' H' x s z r
theorem se_cmp {o : PySem.CmpOp} {b : Cop} {e1 e2 : Expr} {x1 x2 : Ex} (ho : OpS X G (PySem.compareOp o) fun h a c => (wCmp b h a c).map .bl) (hm : PySem.behindInMarks o e2 = false) (h1 : SE X G k.xc e1 (ev T k x1)) (h2 : SE X G k.xc e2 (ev T k x2)) : SE X G k.xc (.Compare e1 [o] [e2] pos) (ev T k (.cmp b x1 x2)) := fun W' tk => by
  obtain ⟨r, hr, ho⟩ := ho
  refine pe_imp (L2.pe_cmpR hr (h1 W' tk) (h2 W' tk) hm) fun σ H Q q => ?_
  obtain ⟨al, ρ, h, a, p⟩ := rd_at q
  simp only [ev] at p
  refine rd_bind a p fun al1 H1 w1 h1 v1 x1 a1 r1 p1 => ?_
  refine rd_bind a1 p1 fun al2 H2 w2 h2 v2 x2 a2 r2 p2 => ?_
  cases e : (wCmp b h2 w1 w2).map W.bl with
  | none => rw [e] at p2; exact p2.elim
  | some w =>
    rw [e] at p2
    exact ho al2 H2 h2 w1 w2 w v1 v2 Q a2.hs (r1.mono x2) r2 e fun al' H' z x s r => p2 al' H' x s z r
end
end Py

namespace Py
open PySem (Addr Value Obj Expr Pos)
theorem S_cps (s : String) : (S s).cps = (s.toList.map Char.toNat).toArray := by unfold S; rw [PySem.Str.ofString_eq_toList]
theorem S_len (s : String) : (S s).length = s.length := by
  show (S s).cps.size = _
  rw [S_cps, List.size_toArray, List.length_map, String.length_toList]
theorem S_app (s t : String) : S s ++ S t = S (s ++ t) := by
  show PySem.Str.append (S s) (S t) = _
  have : (S s).cps ++ (S t).cps = (S (s ++ t)).cps := by rw [S_cps, S_cps, S_cps, String.toList_append]; simp
  unfold PySem.Str.append
  rw [this]
section
variable {K : Frag} {G : Gt} {al : AL} {H : Hp} {h : MH}
/-- a tuple or a list as it stands behind deref -/
theorem deref_tup {v : HV} {w : W} {xs : List W} (r : Rep K H al v w) (e : deref h w = .tup xs) : ∃ a vs, v = .ref a ∧ STup K H al a vs ∧ RepL K H al vs xs := by
  rcases deref_cases (h := h) w with q | ⟨n, ys, rfl, e1, e2⟩
  · rw [q] at e; subst e
    cases r with
    | tup s t => exact ⟨_, _, rfl, s, t⟩
  · rw [e2] at e; cases e
theorem deref_lst (s : HSim K G al H h) {v : HV} {w : W} {xs : List W} (r : Rep K H al v w) (e : deref h w = .lst xs) : ∃ a vs, v = .ref a ∧ H a = some (.lst vs) ∧ RepL K H al vs xs := by
  rcases deref_cases (h := h) w with q | ⟨n, ys, rfl, e1, e2⟩
  · rw [q] at e; subst e
    cases r with
    | lst s t => exact ⟨_, _, rfl, s.1, t⟩
  · rw [e2] at e; cases e
    cases r with
    | ref q =>
      obtain ⟨vs, q1, t⟩ := s.obj _ _ _ q e1
      exact ⟨_, _, rfl, q1, t⟩
theorem deref_scr {v : HV} {w : W} {ns : List Int} (r : Rep K H al v w) (e : deref h w = .scr ns) : ∃ a, v = .ref a ∧ L2.SqL K H a (ns.map L2.V.int) := by
  rcases deref_cases (h := h) w with q | ⟨n, ys, rfl, e1, e2⟩
  · rw [q] at e; subst e
    cases r with
    | scr s => exact ⟨_, rfl, s.sq⟩
  · rw [e2] at e; cases e
theorem deref_int {v : HV} {w : W} {i : Int} (r : Rep K H al v w) (e : deref h w = .int i) : v = .int i := by
  rcases deref_cases (h := h) w with q | ⟨n, ys, rfl, e1, e2⟩
  · rw [q] at e; subst e; cases r; rfl
  · rw [e2] at e; cases e
theorem deref_str {v : HV} {w : W} {i : String} (r : Rep K H al v w) (e : deref h w = .str i) : v = .str (S i) := by
  rcases deref_cases (h := h) w with q | ⟨n, ys, rfl, e1, e2⟩
  · rw [q] at e; subst e; cases r; rfl
  · rw [e2] at e; cases e
theorem deref_ref (s : HSim K G al H h) {v : HV} {w : W} {n : Nat} (r : Rep K H al v w) (e : deref h w = .ref n) : w = .ref n ∧ ∃ a, v = .ref a ∧ al[n]? = some a := by
  rcases deref_cases (h := h) w with q | ⟨n, ys, rfl, e1, e2⟩
  · rw [q] at e; subst e
    cases r with
    | ref q => exact ⟨rfl, _, rfl, q⟩
  · rw [e2] at e; cases e
end
section
variable {X : L2.Cx} {G : Gt}
theorem ops_of {f : Value → Value → PySem.Sem Value} {g : MH → W → W → Option W} {r : L2.R2} (hr : L2.OpR X f r)
    (hg : ∀ al H h a b w v u (Q : HV → Hp → Prop), HSim X.K G al H h → Rep X.K H al v a → Rep X.K H al u b → g h a b = some w → (∀ al' H' z, Ext al H al' H' → HSim X.K G al' H' h → Rep X.K H' al' z w → Q z H') → r v u H Q) : OpS X G f g := ⟨r, hr, hg⟩
theorem ops_add : OpS X G (PySem.binaryOp .Add) (wBin .add) := ops_of (L2.OpR.or L2.op_add (L2.OpR.or L2.op_add_str (L2.OpR.or L2.op_catA L2.op_cat))) fun al H h a b w v u Q s ra rb e q => by
  unfold wBin at e
  split at e <;> first | (rename_i e0 _ _; cases e0; done) | skip
  · rename_i i j _ e1 e2
    cases e
    refine .inl ⟨i, j, deref_int ra e1, deref_int rb e2, q al H _ .refl s (.int _)⟩
  · rename_i i j _ e1 e2
    split at e
    · rename_i hl
      cases e
      refine .inr (.inl ⟨S i, S j, deref_str ra e1, deref_str rb e2, by rw [S_len, S_len, ← lim_eq]; exact hl, ?_⟩)
      rw [S_app]
      exact q al H _ .refl s (.str _)
    · cases e
  · rename_i i j _ e1 e2
    split at e
    · rename_i hl
      cases e
      obtain ⟨pa, va, rfl, sa, la⟩ := deref_tup ra e1
      obtain ⟨pb, vb, rfl, sb, lb⟩ := deref_tup rb e2
      refine .inr (.inr (.inl ⟨pa, pb, va, vb, rfl, rfl, sa.sq, sb.sq, by rw [la.length, lb.length, ← lim_eq]; exact hl, fun e0 => ?_, fun e0 e3 => ?_, fun _ _ p hp => ?_⟩))
      · subst e0; cases la; exact q al H _ .refl s (.tup sb lb)
      · subst e3; cases lb; exact q al H _ .refl s (.tup sa (by rw [List.append_nil]; exact la))
      · have hx := ext_new (o := .tup (va ++ vb)) s hp
        exact q al _ _ hx (s.new hp) (.tup (.inl ⟨.inl L2.upd_same, s.out hp⟩) ((la.append lb).mono hx))
    · cases e
  · rename_i i j _ e1 e2
    split at e
    · rename_i hl
      cases e
      obtain ⟨pa, va, rfl, sa, la⟩ := deref_lst s ra e1
      obtain ⟨pb, vb, rfl, sb, lb⟩ := deref_lst s rb e2
      refine .inr (.inr (.inr ⟨pa, pb, va, vb, rfl, rfl, sa, sb, by rw [la.length, lb.length, ← lim_eq]; exact hl, fun p hp => ?_⟩))
      have hx := ext_new (o := .lst (va ++ vb)) s hp
      exact q al _ _ hx (s.new hp) (.lst ⟨L2.upd_same, s.out hp⟩ ((la.append lb).mono hx))
    · cases e
  · cases e
theorem ops_sub : OpS X G (PySem.binaryOp .Sub) (wBin .sub) := ops_of L2.op_sub fun al H h a b w v u Q s ra rb e q => by
  unfold wBin at e
  split at e <;> first | (rename_i e0 _ _; cases e0; done) | skip
  · rename_i i j _ e1 e2
    cases e
    exact ⟨i, j, deref_int ra e1, deref_int rb e2, q al H _ .refl s (.int _)⟩
  · cases e
theorem ops_mul : OpS X G (PySem.binaryOp .Mult) (wBin .mul) := ops_of (L2.OpR.or L2.op_mul L2.op_rep) fun al H h a b w v u Q s ra rb e q => by
  unfold wBin at e
  split at e <;> first | (rename_i e0 _ _; cases e0; done) | skip
  · rename_i i j _ e1 e2
    split at e
    · rename_i hl
      cases e
      exact .inl ⟨i, j, deref_int ra e1, deref_int rb e2, .inr hl, q al H _ .refl s (.int _)⟩
    · cases e
  · rename_i i j _ e1 e2
    split at e
    · rename_i hl
      cases e
      obtain ⟨pa, va, rfl, sa, la⟩ := deref_lst s ra e1
      refine .inr ⟨pa, j, va, rfl, deref_int rb e2, sa, by omega, by omega, by rw [la.length, ← lim_eq]; exact hl.2.2, fun p hp => ?_⟩
      have hx := ext_new (o := .lst (List.replicate j.toNat va).flatten) s hp
      exact q al _ _ hx (s.new hp) (.lst ⟨L2.upd_same, s.out hp⟩ ((la.rep _).mono hx))
    · cases e
  · cases e
theorem ops_mod : OpS X G (PySem.binaryOp .Mod) (wBin .mod) := ops_of L2.op_mod fun al H h a b w v u Q s ra rb e q => by
  unfold wBin at e
  split at e <;> first | (rename_i e0 _ _; cases e0; done) | skip
  · rename_i i j _ e1 e2
    split at e
    · rename_i hl
      cases e
      exact ⟨i, j, deref_int ra e1, deref_int rb e2, hl, q al H _ .refl s (.int _)⟩
    · cases e
  · cases e
theorem ops_fdiv : OpS X G (PySem.binaryOp .FloorDiv) (wBin .fdiv) := ops_of L2.op_fdiv fun al H h a b w v u Q s ra rb e q => by
  unfold wBin at e
  split at e <;> first | (rename_i e0 _ _; cases e0; done) | skip
  · rename_i i j _ e1 e2
    split at e
    · rename_i hl
      cases e
      exact ⟨i, j, deref_int ra e1, deref_int rb e2, hl, q al H _ .refl s (.int _)⟩
    · cases e
  · cases e
theorem ops_pow : OpS X G (PySem.binaryOp .Pow) (wBin .pow) := ops_of L2.op_pow fun al H h a b w v u Q s ra rb e q => by
  unfold wBin at e
  split at e <;> first | (rename_i e0 _ _; cases e0; done) | skip
  · rename_i i j _ e1 e2
    split at e
    · rename_i hl
      cases e
      exact ⟨i, j, deref_int ra e1, deref_int rb e2, ⟨hl.1, hl.2.1, by omega⟩, q al H _ .refl s (.int _)⟩
    · cases e
  · cases e

theorem wEq_some {h : MH} {a b : W} {c : Bool} (e : wEq h a b = some c) : (deref h a).pure = true ∧ (deref h b).pure = true ∧ min (deref h a).depth (deref h b).depth ≤ 64 ∧ c = (deref h a).eqv (deref h b) := by
  unfold wEq at e
  simp only at e
  split at e
  · rename_i hp
    simp only [Bool.and_eq_true, decide_eq_true_eq] at hp
    exact ⟨hp.1.1, hp.1.2, hp.2, (Option.some.inj e).symm⟩
  · cases e
theorem ops_eq (hu : X.A.units + 200 < PySem.cLine) : OpS X G (PySem.compareOp .Eq) (fun h a c => (wCmp .eq h a c).map .bl) := ops_of (op_eqW hu) fun al H h a b w v u Q s ra rb e q => by
  simp only [wCmp, Option.map_eq_some_iff] at e
  obtain ⟨c, e, rfl⟩ := e
  obtain ⟨p1, p2, hd, rfl⟩ := wEq_some e
  refine ⟨_, _, deref_dp s ra p1, deref_dp s rb p2, hd, ?_⟩
  rw [eqv_toD _ _ p1 p2]
  exact q al H _ .refl s (.bl _)
theorem ops_ne (hu : X.A.units + 200 < PySem.cLine) : OpS X G (PySem.compareOp .NotEq) (fun h a c => (wCmp .ne h a c).map .bl) := ops_of (op_neW hu) fun al H h a b w v u Q s ra rb e q => by
  simp only [wCmp, Option.map_eq_some_iff] at e
  obtain ⟨c, ⟨d, e, rfl⟩, rfl⟩ := e
  obtain ⟨p1, p2, hd, rfl⟩ := wEq_some e
  refine ⟨_, _, deref_dp s ra p1, deref_dp s rb p2, hd, ?_⟩
  rw [eqv_toD _ _ p1 p2]
  exact q al H _ .refl s (.bl _)
theorem str_lt (i j : String) : decide ((S i).cps.toList < (S j).cps.toList) = decide (i < j) := by
  rw [S_cps, S_cps]
  have key : ∀ a b : List Char, (a.map Char.toNat < b.map Char.toNat) ↔ a < b := by
    intro a
    induction a with
    | nil => intro b; cases b with
      | nil => simp
      | cons y ys => simp
    | cons x xs ih => intro b; cases b with
      | nil => simp
      | cons y ys =>
        simp only [List.map_cons, List.cons_lt_cons_iff, ih ys]
        have h1 : x.toNat < y.toNat ↔ x < y := by
          show x.val.toNat < y.val.toNat ↔ x.val < y.val
          exact UInt32.lt_iff_toNat_lt.symm
        have h2 : x.toNat = y.toNat ↔ x = y := Char.toNat_inj
        rw [h1, h2]
  have h3 : (i < j) ↔ i.toList < j.toList := Iff.rfl
  exact decide_eq_decide.mpr (by simp only [key, h3])
theorem ops_lt : OpS X G (PySem.compareOp .Lt) (fun h a c => (wCmp .lt h a c).map .bl) := ops_of (L2.OpR.or L2.op_lt L2.op_lt_str) fun al H h a b w v u Q s ra rb e q => by
  simp only [Option.map_eq_some_iff] at e
  obtain ⟨c, e, rfl⟩ := e
  unfold wCmp at e
  split at e <;> first | (rename_i e0; cases e0; done) | (rename_i e0 _; cases e0; done) | skip
  · cases e; cases ra; cases rb; exact .inl ⟨_, _, rfl, rfl, q al H _ .refl s (.bl _)⟩
  · cases e; cases ra; cases rb
    refine .inr ⟨_, _, rfl, rfl, ?_⟩
    rw [str_lt]
    exact q al H _ .refl s (.bl _)
  · cases e
theorem ops_le : OpS X G (PySem.compareOp .LtE) (fun h a c => (wCmp .le h a c).map .bl) := ops_of L2.op_le fun al H h a b w v u Q s ra rb e q => by
  simp only [Option.map_eq_some_iff] at e
  obtain ⟨c, e, rfl⟩ := e
  unfold wCmp at e
  split at e <;> first | (rename_i e0; cases e0; done) | (rename_i e0 _; cases e0; done) | skip
  · cases e; cases ra; cases rb; exact ⟨_, _, rfl, rfl, q al H _ .refl s (.bl _)⟩
  · cases e
theorem ops_gt : OpS X G (PySem.compareOp .Gt) (fun h a c => (wCmp .gt h a c).map .bl) := ops_of L2.op_gt fun al H h a b w v u Q s ra rb e q => by
  simp only [Option.map_eq_some_iff] at e
  obtain ⟨c, e, rfl⟩ := e
  unfold wCmp at e
  split at e <;> first | (rename_i e0; cases e0; done) | (rename_i e0 _; cases e0; done) | skip
  · cases e; cases ra; cases rb; exact ⟨_, _, rfl, rfl, q al H _ .refl s (.bl _)⟩
  · cases e
theorem ops_ge : OpS X G (PySem.compareOp .GtE) (fun h a c => (wCmp .ge h a c).map .bl) := ops_of L2.op_ge fun al H h a b w v u Q s ra rb e q => by
  simp only [Option.map_eq_some_iff] at e
  obtain ⟨c, e, rfl⟩ := e
  unfold wCmp at e
  split at e <;> first | (rename_i e0; cases e0; done) | (rename_i e0 _; cases e0; done) | skip
  · cases e; cases ra; cases rb; exact ⟨_, _, rfl, rfl, q al H _ .refl s (.bl _)⟩
  · cases e
end
end Py

namespace Py
theorem insStr_perm (x : String) : ∀ l : List String, (insStr x l).Perm (x :: l)
  | [] => .refl _
  | y :: r => by
    unfold insStr
    split
    · exact ((insStr_perm x r).cons y).trans (.swap x y r)
    · exact .refl _
theorem sortStr_perm : ∀ l : List String, (sortStr l).Perm l
  | [] => .refl _
  | x :: r => (insStr_perm x _).trans ((sortStr_perm r).cons x)
/-- not behind -/
def leS (a b : String) : Prop := ¬ b < a
theorem leS_trans {a b c : String} (h1 : leS a b) (h2 : leS b c) : leS a c := by
  unfold leS at *
  exact fun h => h1 (by
    have h1' : a ≤ b := by simpa using h1
    have h2' : b ≤ c := by simpa using h2
    have := String.le_trans h1' h2'
    exact absurd h (by simpa using this))
theorem leS_antisymm {a b : String} (h1 : leS a b) (h2 : leS b a) : a = b := String.le_antisymm (by simpa [leS] using h1) (by simpa [leS] using h2)
theorem insStr_sorted (x : String) : ∀ {l : List String}, l.Pairwise leS → (insStr x l).Pairwise leS
  | [], _ => by simp [insStr]
  | y :: r, h => by
    have h' := List.pairwise_cons.mp h
    unfold insStr
    split
    · rename_i hlt
      refine List.pairwise_cons.mpr ⟨fun z hz => ?_, insStr_sorted x h'.2⟩
      rcases List.mem_cons.mp ((insStr_perm x r).mem_iff.mp hz) with rfl | hz
      · exact fun h => absurd (String.lt_trans h hlt) (String.lt_irrefl _)
      · exact h'.1 z hz
    · rename_i hlt
      refine List.pairwise_cons.mpr ⟨fun z hz => ?_, h⟩
      rcases List.mem_cons.mp hz with rfl | hz
      · exact hlt
      · exact leS_trans hlt (h'.1 z hz)
theorem sortStr_sorted : ∀ l : List String, (sortStr l).Pairwise leS
  | [] => .nil
  | x :: r => insStr_sorted x (sortStr_sorted r)
theorem sortStr_eq {a b : List String} (p : a.Perm b) (h1 : a.Pairwise leS) : a = sortStr b :=
  List.Perm.eq_of_pairwise (fun x y _ _ h1 h2 => leS_antisymm h1 h2) h1 (sortStr_sorted b) (p.trans (sortStr_perm b).symm)
theorem ltCps_iff : ∀ a b : List Nat, PySem.Spec.ltCps a b = decide (a < b)
  | [], [] => by simp [PySem.Spec.ltCps]
  | [], _ :: _ => by simp [PySem.Spec.ltCps]
  | _ :: _, [] => by simp [PySem.Spec.ltCps]
  | a :: r, b :: t => by
    rw [PySem.Spec.ltCps, ltCps_iff r t]
    by_cases h1 : a < b
    · simp [h1, List.cons_lt_cons_iff]
    · by_cases h2 : a = b
      · subst h2; simp [List.cons_lt_cons_iff]
      · simp [h1, h2, List.cons_lt_cons_iff]
theorem rising_all : ∀ (l : List String) (p : String), PyProof.Rows.risingS (S p) (l.map S) = true → (p :: l).Pairwise leS
  | [], p, _ => by simp
  | x :: r, p, h => by
    simp only [List.map_cons, PyProof.Rows.risingS, Bool.and_eq_true] at h
    obtain ⟨h1, h2⟩ := h
    have ih := rising_all r x h2
    have hx : leS p x := by
      rw [ltCps_iff, str_lt] at h1
      unfold leS
      simpa using h1
    refine List.pairwise_cons.mpr ⟨fun z hz => ?_, ih⟩
    rcases List.mem_cons.mp hz with rfl | hz
    · exact hx
    · exact leS_trans hx ((List.pairwise_cons.mp ih).1 z hz)
theorem sorted_all {l : List String} (h : PyProof.Rows.sortedS (l.map S) = true) : l.Pairwise leS := by
  cases l with
  | nil => exact .nil
  | cons x r => exact rising_all r x h
end Py

namespace Py
open PySem (Addr Value Obj Expr Pos World Program Around Shared Heap Str)
open PyProof.Rows (lexLt itemOrd lex_self lex_diff lex_irrefl lex_trans lex_negTrans)
abbrev SKey : Type := Int × List Str
def kT (a : List Str) : List (Int ⊕ List Nat) := a.map fun x => .inr x.cps.toList
def ltL (a b : List Str) : Bool := lexLt itemOrd (kT a) (kT b)
def ltK (p q : SKey) : Bool := lexLt itemOrd (.inl p.1 :: kT p.2) (.inl q.1 :: kT q.2)
theorem ltL_nil (a : List Str) : ltL a [] = false := by cases a <;> rfl
theorem ltL_nc (y : Str) (t : List Str) : ltL [] (y :: t) = true := rfl
theorem cps_ne {x y : Str} (h : x ≠ y) : x.cps.toList ≠ y.cps.toList := fun e => h (by
  have hc : x.cps = y.cps := Array.toList_inj.mp e
  cases x; cases y
  simp only [PySem.Str.mk.injEq]
  exact hc)
theorem ltL_eq (x : Str) (r t : List Str) : ltL (x :: r) (x :: t) = ltL r t := lex_self _ _ _
theorem ltL_ne {x y : Str} (h : x ≠ y) (r t : List Str) : ltL (x :: r) (y :: t) = decide (x.cps.toList < y.cps.toList) :=
  lex_diff (O := itemOrd) fun z => cps_ne h (Sum.inr.inj z)
theorem ltK_eq {p q : SKey} (h : p.1 = q.1) : ltK p q = ltL p.2 q.2 := by
  unfold ltK
  rw [h]
  exact lex_self _ _ _
theorem ltK_ne {p q : SKey} (h : p.1 ≠ q.1) : ltK p q = decide (p.1 < q.1) := lex_diff (O := itemOrd) fun z => h (Sum.inl.inj z)
theorem ltK_swo {α : Type} (k : α → SKey) : SrtO.Swo fun v u => ltK (k v) (k u) := by
  refine ⟨fun x y h => ?_, fun x y z h1 h2 => ?_⟩
  · cases e : ltK (k y) (k x) with
    | false => rfl
    | true =>
      have q := lex_trans _ _ _ h e
      rw [lex_irrefl] at q
      cases q
  · cases e : ltK (k z) (k x) with
    | false => rfl
    | true =>
      rcases lex_negTrans (O := itemOrd) _ (.inl (k y).1 :: kT (k y).2) _ e with q | q
      · exact absurd (q.symm.trans h2) (by decide)
      · exact absurd (q.symm.trans h1) (by decide)
theorem ltL_S : ∀ a b : List String, ltL (a.map S) (b.map S) = decide (a < b)
  | [], [] => by simp [ltL_nil]
  | _ :: _, [] => by simp [ltL_nil]
  | [], _ :: _ => by simp [ltL_nc]
  | x :: r, y :: t => by
    simp only [List.map_cons]
    by_cases e : x = y
    · subst e
      rw [ltL_eq, ltL_S r t]
      simp [List.cons_lt_cons_iff]
    · rw [ltL_ne (fun h => e (S_inj h)), str_lt]
      simp [List.cons_lt_cons_iff, e]
section
variable {s : Shared} {A : Around}
open PySem.SeqAt (EqAt RcAt)
def eqT (xs ys : List Str) (j : Nat) : Bool := xs.getD j Str.empty == ys.getD j Str.empty
def lsT (xs ys : List Str) (j : Nat) : Bool := decide ((xs.getD j Str.empty).cps.toList < (ys.getD j Str.empty).cps.toList)
theorem str_item {its : Array Value} {xs : List Str} (h : PyProof.Rows.StrsAre its.toList xs) {j : Nat} (hj : j < its.size) : ∃ t, its[j] = .str (xs.getD j Str.empty) t := by
  have q : its.toList[j]? = some its[j] := by rw [Array.getElem?_toList]; exact Array.getElem?_eq_getElem hj
  exact SS.strs_at h j _ q
theorem len_of {its : Array Value} {xs : List Str} (h : PyProof.Rows.StrsAre its.toList xs) : its.size = xs.length := by
  rw [← PyProof.Rows.StrsAre.len_eq h, Array.length_toList]
theorem lexAt_ltL (xs ys : List Str) : ∀ (k i : Nat), k = min xs.length ys.length - i → i ≤ min xs.length ys.length →
    Ob.lexAt (eqT xs ys) (lsT xs ys) (decide (xs.length < ys.length)) i k = ltL (xs.drop i) (ys.drop i)
  | 0, i, hk, hi => by
    rw [Ob.lexAt_zero]
    rcases Nat.lt_or_ge xs.length ys.length with c | c
    · have e : i = xs.length := by omega
      subst e
      rw [List.drop_length, List.drop_eq_getElem_cons c, ltL_nc]
      simp [c]
    · have e : i = ys.length := by omega
      subst e
      rw [List.drop_length, ltL_nil]
      simp; omega
  | k + 1, i, hk, hi => by
    have h1 : i < xs.length := by omega
    have h2 : i < ys.length := by omega
    rw [Ob.lexAt_succ, lexAt_ltL xs ys k (i + 1) (by omega) (by omega), List.drop_eq_getElem_cons h1, List.drop_eq_getElem_cons h2]
    have g1 : xs.getD i Str.empty = xs[i] := by simp [List.getD, h1]
    have g2 : ys.getD i Str.empty = ys[i] := by simp [List.getD, h2]
    unfold eqT lsT
    rw [g1, g2]
    by_cases e : xs[i] = ys[i]
    · rw [e, ltL_eq]
      simp
    · rw [ltL_ne e]
      simp [e]
theorem all_eqT {xs ys : List Str} : ((List.range (min xs.length ys.length)).all (eqT xs ys) && xs.length == ys.length) = decide (xs = ys) := by
  by_cases e : xs = ys
  · subst e
    simp [eqT]
  · simp only [e, decide_false, Bool.and_eq_false_iff]
    rcases Classical.em (xs.length = ys.length) with c | c
    · left
      rw [Bool.eq_false_iff]
      intro h
      apply e
      apply List.ext_getElem c
      intro i h1 h2
      have q := List.all_eq_true.mp h i (List.mem_range.mpr (by omega))
      unfold eqT at q
      have g1 : xs.getD i Str.empty = xs[i] := by simp [List.getD, h1]
      have g2 : ys.getD i Str.empty = ys[i] := by simp [List.getD, h2]
      rw [g1, g2] at q
      exact eq_of_beq q
    · right
      simpa using c
theorem tup_eqAt {a b : Addr} {is js : Array Value} {xs ys : List Str} (ha : s.heap.IsTuple a is) (hb : s.heap.IsTuple b js) (hu : A.units < PySem.cLine) (hx : PyProof.Rows.StrsAre is.toList xs) (hy : PyProof.Rows.StrsAre js.toList ys) :
    ∃ e, EqAt A s (.ref a) (.ref b) e ∧ (e = true ↔ xs = ys) := by
  by_cases c : a = b
  · subst c
    refine ⟨true, EqAt.same _, ⟨fun _ => ?_, fun _ => rfl⟩⟩
    obtain ⟨o, ho, _, n, hd⟩ := ha
    obtain ⟨o', ho', _, n', hd'⟩ := hb
    rw [ho] at ho'
    cases ho'
    rw [hd] at hd'
    injection hd' with e1 _
    subst e1
    exact hx.strs.symm.trans hy.strs
  · refine ⟨_, EqAt.of_refs c (RcAt.tuples (e := eqT xs ys) ha hb hu fun j h1 h2 => ?_), ?_⟩
    · obtain ⟨t, e1⟩ := str_item hx h1
      obtain ⟨u, e2⟩ := str_item hy h2
      rw [e1, e2]
      exact EqAt.str_str _ _ _ _
    · rw [len_of hx, len_of hy, all_eqT, decide_eq_true_eq]
theorem tup_lt {a b : Addr} {is js : Array Value} {xs ys : List Str} (ha : s.heap.IsTuple a is) (hb : s.heap.IsTuple b js) (hu : A.units < PySem.cLine) (hx : PyProof.Rows.StrsAre is.toList xs) (hy : PyProof.Rows.StrsAre js.toList ys) :
    Ob.RcOp .Lt A s (.ref a) (.ref b) (ltL xs ys) := by
  have q := Ob.RcOp.tuples_lt (e := eqT xs ys) (r := lsT xs ys) ha hb hu (fun j h1 h2 => ?_) (fun j h1 h2 _ => ?_)
  · rw [len_of hx, len_of hy, lexAt_ltL xs ys _ 0 (by simp) (Nat.zero_le _)] at q
    exact q
  · obtain ⟨t, e1⟩ := str_item hx h1
    obtain ⟨u, e2⟩ := str_item hy h2
    rw [e1, e2]
    exact EqAt.str_str _ _ _ _
  · obtain ⟨t, e1⟩ := str_item hx h1
    obtain ⟨u, e2⟩ := str_item hy h2
    rw [e1, e2]
    exact fun prog w E Q h => PyProof.Rows.lt_str h
end
def PairS (h : Heap) (v : Value) (k : SKey) : Prop :=
  ∃ a o t b m its, v = .ref a ∧ h.get? a = some o ∧ o.cls = .type "tuple" ∧ o.data = .seq #[.int k.1 t, .ref b] m ∧ h.IsTuple b its ∧ PyProof.Rows.StrsAre its.toList k.2
theorem PairS.keeps {h h' : Heap} {v : Value} {k : SKey} (p : PairS h v k) (keep : ∀ b o, h.get? b = some o → o.cls = .type "tuple" → h'.get? b = some o) : PairS h' v k := by
  obtain ⟨a, o, t, b, m, its, e, ho, hc, hd, hb, hs⟩ := p
  obtain ⟨o', ho', hc', r⟩ := hb
  exact ⟨a, o, t, b, m, its, e, keep _ _ ho hc, hc, hd, ⟨o', keep _ _ ho' hc', hc', r⟩, hs⟩
theorem PairS.inj {h : Heap} {v : Value} {k k' : SKey} (p : PairS h v k) (q : PairS h v k') : k = k' := by
  obtain ⟨a, o, t, b, m, its, rfl, ho, hc, hd, hb, hs⟩ := p
  obtain ⟨a', o', t', b', m', its', e, ho', hc', hd', hb', hs'⟩ := q
  cases e
  rw [ho] at ho'
  cases ho'
  rw [hd] at hd'
  simp only [PySem.Data.seq.injEq, Array.mk.injEq, List.cons.injEq, PySem.Value.int.injEq, PySem.Value.ref.injEq, and_true] at hd'
  obtain ⟨⟨⟨e1, _⟩, e2⟩, _⟩ := hd'
  subst e2
  obtain ⟨o1, h1, _, n1, d1⟩ := hb
  obtain ⟨o2, h2, _, n2, d2⟩ := hb'
  rw [h1] at h2
  cases h2
  rw [d1] at d2
  injection d2 with e3 _
  subst e3
  exact Prod.ext e1 (hs.strs.symm.trans hs'.strs)
open Classical in
noncomputable def kOf (h : Heap) (v : Value) : SKey := if e : ∃ k, PairS h v k then e.choose else (0, [])
theorem PairS.kOf {h : Heap} {v : Value} {k : SKey} (p : PairS h v k) : kOf h v = k := by
  unfold Py.kOf
  have e : ∃ k, PairS h v k := ⟨k, p⟩
  rw [dif_pos e]
  exact e.choose_spec.inj p
section
variable {prog : Program} {w : World} {A : Around} {E : Value → Shared → Prop} {s : Shared}
theorem pairS_cmp {vs : List Value} {k : Value → SKey} (hu : A.units < PySem.cLine) (hp : ∀ v ∈ vs, PairS s.heap v (k v)) :
    SrtO.Cmp prog w A s (PyProof.Rows.tuples' true) (fun p => p.1 ∈ vs) (SrtO.lt2 fun v u => ltK (k v) (k u)) := by
  intro p q hm hm'
  have h1 := hp _ hm
  have h2 := hp _ hm'
  change PySem.wpAny (PySem.model prog w) A (PyProof.Rows.keyLt' (PyProof.Rows.tuples' true) p.1 q.1) (fun r s' => s' = s ∧ r = ltK (k p.1) (k q.1)) (fun _ _ => False) s
  obtain ⟨a, o, t, b, m, its, e, ho, hc, hd, hb, hs⟩ := h1
  obtain ⟨a', o', t', b', m', its', e', ho', hc', hd', hb', hs'⟩ := h2
  rw [e, e']
  refine PySem.W.kat_lt ho hd ho' hd' ?_
  change PySem.W.KatLex prog w A true (decide (2 < 2)) _ [(.int _ t, .int _ t'), (.ref b, .ref b')] 0 s
  refine PySem.W.kat_cons (PySem.SeqAt.EqAt.int_int _ t _ t' prog w _ _ ?_)
  refine PySem.W.kat_go (fun e1 => ?_) (fun e1 => ?_)
  · rw [← e, ← e'] at *
    have ex : (k p.1).1 = (k q.1).1 := by simpa using e1
    obtain ⟨r, he, hr⟩ := tup_eqAt hb hb' hu hs hs'
    refine PySem.W.kat_yes (PySem.W.kat_cons (he prog w _ _ ?_))
    refine PySem.W.kat_go (fun e2 => ?_) (fun e2 => ?_)
    · have ey := hr.mp e2
      have e3 : ltK (k p.1) (k q.1) = false := by rw [ltK_eq ex, ey]; exact lex_irrefl _
      exact PySem.W.kat_yes (PySem.W.kat_nil ⟨rfl, e3.symm⟩)
    · refine PySem.W.kat_no (PySem.W.kat_one _ _ (tup_lt hb hb' hu hs hs' prog w _ _ ?_))
      exact (show s = s ∧ ltL (k p.1).2 (k q.1).2 = ltK (k p.1) (k q.1) from ⟨rfl, (ltK_eq ex).symm⟩)
  · rw [← e, ← e'] at *
    have ex : ¬ (k p.1).1 = (k q.1).1 := by simpa using e1
    exact PySem.W.kat_no (PyProof.Rows.oneLt_int ⟨rfl, (ltK_ne ex).symm⟩)
end
theorem pairS_firsts {h : Heap} {k : Value → SKey} : ∀ {vs : List Value}, (∀ v ∈ vs, PairS h v (k v)) → ∃ fs : List Value, PySem.W.KatTups h vs fs ∧ fs.length = vs.length ∧ ∀ f ∈ fs, ∃ x t, f = Value.int x t
  | [], _ => ⟨[], PySem.W.KatTups.nil, rfl, fun _ hm => by simp at hm⟩
  | v :: vs, hp => by
    obtain ⟨fs, g1, g2, g3⟩ := pairS_firsts (vs := vs) fun u hm => hp u (List.mem_cons_of_mem _ hm)
    obtain ⟨a, o, t, b, m, its, e, ho, hc, hd, _⟩ := hp v List.mem_cons_self
    subst e
    refine ⟨.int _ t :: fs, PySem.W.KatTups.cons ho hc hd rfl g1, by simp [g2], fun f hm => ?_⟩
    rcases List.mem_cons.mp hm with rfl | hm
    · exact ⟨_, t, rfl⟩
    · exact g3 f hm
section
variable {prog : Program} {w : World} {A : Around} {E : Value → Shared → Prop} {s : Shared}
theorem pairS_sortable {a : Addr} {vs : List Value} {k : Value → SKey} (hu : A.units < PySem.cLine) (h0 : 0 < vs.length) (hp : ∀ v ∈ vs, PairS s.heap v (k v)) (ha : ∀ o, s.heap.get? a = some o → o.cls ≠ .type "tuple") :
    SrtO.SortableO prog w A s a vs fun v u => ltK (k v) (k u) := by
  intro h' keep
  have hp' : ∀ v ∈ vs, PairS h' v (k v) := fun v hm => (hp v hm).keeps fun b o e c => keep b o (fun z => by subst z; exact ha o e c) e
  obtain ⟨fs, g1, g2, g3⟩ := pairS_firsts hp'
  refine ⟨PyProof.Rows.tuples' true, fun Q E hq => ?_, pairS_cmp hu hp'⟩
  refine PySem.W.kat_kind (T := .type "int") g1 (by omega) (fun f hm => ?_) rfl ?_
  · obtain ⟨x, t, rfl⟩ := g3 f hm
    exact PySem.W.Looks.now
  · rw [show (Value.type "int" != Value.type "tuple") = true from by decide +kernel]
    exact hq
theorem sorted_pairsS {l : Addr} {vs : List Value} {k : Value → SKey} {Q : Value → Shared → Prop} (hu : A.units + 10 < PySem.cLine) (hl : s.heap.IsList l vs.toArray) (hz : vs.length ≤ PySem.sizeLine) (hp : ∀ v ∈ vs, PairS s.heap v (k v))
    (h : ∀ (h' : Heap) (d : Addr) (out : List Value), out.Pairwise (fun v u => ltK (k u) (k v) = false) → out.Perm vs → (∀ b o, s.heap.get? b = some o → h'.get? b = some o) → s.heap.objs.size ≤ d →
      (∃ n, h'.get? d = some (PyProof.Rows.seqObj "list" out.toArray n)) → Q (.ref d) { s with heap := h' }) :
    PySem.wpAny (PySem.model prog w) A (PySem.call (.builtin "sorted") [.ref l]) Q E s := by
  refine SrtO.sorted_ord (ltK_swo k) hl hz (fun h2 h₁ a ha kk => ?_) fun out hs hb => ?_
  · refine pairS_sortable (s := { s with heap := h₁ }) (show A.units + 1 + 1 < PySem.cLine by omega) (by omega) (fun v hm => (hp v hm).keeps fun b o e _ => (kk b o e).2) fun o e => ?_
    have e' : some o = some (PyProof.Rows.seqObj "list" vs.toArray 0) := e.symm.trans ha
    cases e'
    intro c
    exact absurd (PySem.Value.type.inj c) (by decide)
  · exact h _ _ out hs hb.perm (fun b o e => PyProof.Rows.sortedAll_old e) (Nat.le_succ _) (PyProof.Rows.sortedAll_at s.heap vs out.toArray)
end
theorem perm_lift {α β : Type} {f : α → β} {l m : List β} (p : l.Perm m) : ∀ T : List α, m = T.map f → ∃ T' : List α, T'.Perm T ∧ l = T'.map f := by
  induction p with
  | nil => exact fun T e => ⟨[], by
      have : T = [] := List.map_eq_nil_iff.mp e.symm
      rw [this], rfl⟩
  | cons x p ih =>
    intro T e
    cases T with
    | nil => cases e
    | cons t T =>
      injection e with e1 e2
      obtain ⟨T', h1, h2⟩ := ih T e2
      exact ⟨t :: T', h1.cons t, by rw [List.map_cons, ← e1, ← h2]⟩
  | swap x y l =>
    intro T e
    match T, e with
    | a :: b :: T, e =>
      injection e with e1 e2
      injection e2 with e2 e3
      exact ⟨b :: a :: T, .swap _ _ _, by rw [List.map_cons, List.map_cons, e1, e2, e3]⟩
  | trans p q ih1 ih2 =>
    intro T e
    obtain ⟨T2, h1, h2⟩ := ih2 T e
    obtain ⟨T3, h3, h4⟩ := ih1 T2 h2
    exact ⟨T3, h3.trans h1, h4⟩
def rSortedPS {τ : Type} (key : τ → SKey) (K : PySem.W.Frag) : List L2.V → L2.Hp → L2.VK → Prop := fun vs H Q => ∃ (a : Addr) (L : List (L2.V × τ)), vs = [L2.V.ref a] ∧ L2.SqL K H a (L.map (·.1)) ∧
  (∀ p ∈ L, ∃ t b, p.1 = .ref t ∧ L2.SqT K H t [.int (key p.2).1, .ref b] ∧ L2.SqT K H b ((key p.2).2.map L2.V.str)) ∧
  ∀ (L' : List (L2.V × τ)) (p : Addr), L'.Perm L → L'.Pairwise (fun x y => ltK (key y.2) (key x.2) = false) → H p = none → Q (.ref p) (L2.upd H p (.lst (L'.map (·.1))))
section
variable {X : L2.Cx}
theorem vals_zip {τ : Type} : ∀ {L : List (L2.V × τ)} {us : List Value}, L2.Vals (L.map (·.1)) us → ∃ T : List (Value × L2.V × τ), T.map (·.2) = L ∧ T.map (·.1) = us ∧ ∀ t ∈ T, L2.RelV t.2.1 t.1
  | [], _, .nil => ⟨[], rfl, rfl, fun _ h => by cases h⟩
  | p :: L, u :: us, .cons r t => by
    obtain ⟨T, h1, h2, h3⟩ := vals_zip t
    refine ⟨(u, p) :: T, by rw [List.map_cons, h1], by rw [List.map_cons, h2], fun t ht => ?_⟩
    rcases List.mem_cons.mp ht with rfl | ht
    · exact r
    · exact h3 t ht
theorem zip_vals {τ : Type} : ∀ (T : List (Value × L2.V × τ)), (∀ t ∈ T, L2.RelV t.2.1 t.1) → L2.Vals ((T.map (·.2)).map (·.1)) (T.map (·.1))
  | [], _ => .nil
  | t :: T, h => .cons (h t List.mem_cons_self) (zip_vals T fun u hu => h u (List.mem_cons_of_mem _ hu))
theorem cr_sortedPS {τ : Type} (key : τ → SKey) (hu : X.A.units + 200 < PySem.cLine) : L2.CallR X (.builtin "sorted") (rSortedPS key X.K) := by
  intro pins s σ H vs us Q I r h
  obtain ⟨a, L, rfl, hs, hx, q⟩ := h
  obtain ⟨its, rv, hl, hz⟩ := I.list hs
  obtain ⟨u, rfl, ru⟩ := L2.vals1 r
  obtain rfl : u = Value.ref a := ru
  obtain ⟨T, rfl, rfl, hT⟩ := vals_zip rv
  have pr : ∀ t ∈ T, PairS s.heap t.1 (key t.2.2) := fun t ht => by
    obtain ⟨c, b, e, h1, h2⟩ := hx t.2 (List.mem_map.mpr ⟨t, ht, rfl⟩)
    have r1 := hT t ht
    rw [e] at r1
    have e1 : t.1 = Value.ref c := r1
    obtain ⟨i1, v1, ⟨o, ho, hc, n, hd⟩, _⟩ := I.tuple h1
    obtain ⟨i2, v2, ht2, _⟩ := I.tuple h2
    obtain ⟨x, y, rfl, ri, rj⟩ := L2.vals2 v1
    obtain ⟨tk, rfl⟩ := ri
    have ey : y = Value.ref b := rj
    subst ey
    exact ⟨c, o, tk, b, n, i2.toArray, e1, ho, hc, hd, ht2, by simpa using L2.strsAre_of v2⟩
  have kof : ∀ t ∈ T, kOf s.heap t.1 = key t.2.2 := fun t ht => (pr t ht).kOf
  have tot : (T.map (·.1)).length ≤ PySem.sizeLine := by
    rw [List.length_map, List.length_map] at hz
    rw [List.length_map]; exact hz
  refine sorted_pairsS (k := kOf s.heap) (by omega) hl.isList tot (fun v hv => ?_) fun h' d out g1 g2 kp hd hn => ?_
  · obtain ⟨t, ht, rfl⟩ := List.mem_map.mp hv
    rw [kof t ht]
    exact pr t ht
  · obtain ⟨T', p', rfl⟩ := perm_lift g2 T rfl
    obtain ⟨n, hn⟩ := hn
    have m : ∀ t ∈ T', t ∈ T := fun t ht => p'.mem_iff.mp ht
    have pw : (T'.map (·.2)).Pairwise (fun x y => ltK (key y.2) (key x.2) = false) := by
      rw [List.pairwise_map] at g1 ⊢
      refine List.Pairwise.imp_of_mem (fun {x y} hx hy hlt => ?_) g1
      rw [← kof x (m x hx), ← kof y (m y hy)]
      exact hlt
    refine ⟨.ref d, L2.upd H d (.lst ((T'.map (·.2)).map (·.1))), I.laid (t' := s.toks) kp hd ⟨?_, _, n, zip_vals T' fun t ht => hT t (m t ht), hn⟩, rfl, q _ d (p'.map _) pw (I.hok.fresh hd)⟩
    rw [List.length_map, List.length_map, p'.length_eq]
    rw [List.length_map] at tot
    exact tot
end
def keyP (w : W) : SKey := ((pairKey w).1, (pairKey w).2.map S)
theorem ltK_pair (a b : W) : ltK (keyP a) (keyP b) = pairLt (pairKey a) (pairKey b) := by
  unfold pairLt
  by_cases e : (pairKey a).1 = (pairKey b).1
  · rw [ltK_eq (show (keyP a).1 = (keyP b).1 from e), if_pos e]
    exact ltL_S _ _
  · rw [ltK_ne (show (keyP a).1 ≠ (keyP b).1 from e), if_neg e]
    rfl
theorem strsOf_map : ∀ {xs : List W} {l : List String}, strsOf xs = some l → xs = l.map .str
  | [], l, e => by simp [strsOf] at e; subst e; rfl
  | w :: ws, l, e => by
    cases w <;> simp only [strsOf] at e <;> try (cases e; done)
    obtain ⟨m, e1, rfl⟩ := Option.map_eq_some_iff.mp e
    simp [strsOf_map e1]
theorem pairOk_shape {w : W} (h : pairOk w = true) : ∃ i l, w = .tup [.int i, .tup (l.map .str)] ∧ pairKey w = (i, l) := by
  unfold pairOk at h
  split at h
  · rename_i i xs
    obtain ⟨l, e⟩ := Option.isSome_iff_exists.mp h
    exact ⟨i, l, by rw [strsOf_map e], by simp [pairKey, e]⟩
  · cases h
theorem insP_perm (x : W) : ∀ l : List W, (insP x l).Perm (x :: l)
  | [] => .refl _
  | y :: r => by
    unfold insP
    split
    · exact ((insP_perm x r).cons y).trans (.swap x y r)
    · exact .refl _
theorem sortP_perm : ∀ l : List W, (sortP l).Perm l
  | [] => .refl _
  | x :: r => (insP_perm x _).trans ((sortP_perm r).cons x)
/-- not behind -/
def leP (a b : W) : Prop := ltK (keyP b) (keyP a) = false
theorem leP_trans {a b c : W} (h1 : leP a b) (h2 : leP b c) : leP a c := (ltK_swo keyP).tr a b c h1 h2
theorem insP_sorted (x : W) : ∀ {l : List W}, l.Pairwise leP → (insP x l).Pairwise leP
  | [], _ => by simp [insP]
  | y :: r, h => by
    have h' := List.pairwise_cons.mp h
    unfold insP
    split
    · rename_i hlt
      refine List.pairwise_cons.mpr ⟨fun z hz => ?_, insP_sorted x h'.2⟩
      rcases List.mem_cons.mp ((insP_perm x r).mem_iff.mp hz) with rfl | hz
      · exact (ltK_swo keyP).asym _ _ ((ltK_pair _ _).trans hlt)
      · exact h'.1 z hz
    · rename_i hge
      have hxy : leP x y := by
        unfold leP
        rw [ltK_pair]
        simpa using hge
      refine List.pairwise_cons.mpr ⟨fun z hz => ?_, h⟩
      rcases List.mem_cons.mp hz with rfl | hz
      · exact hxy
      · exact leP_trans hxy (h'.1 z hz)
theorem sortP_sorted : ∀ l : List W, (sortP l).Pairwise leP
  | [] => .nil
  | x :: r => insP_sorted x (sortP_sorted r)
theorem pairLt_tri {a b : Int × List String} (h1 : pairLt a b = false) (h2 : pairLt b a = false) : a = b := by
  unfold pairLt at h1 h2
  by_cases e : a.1 = b.1
  · rw [if_pos e] at h1
    rw [if_pos e.symm] at h2
    have e2 : a.2 = b.2 := by
      simp only [decide_eq_false_iff_not] at h1 h2
      exact List.le_antisymm (List.not_lt.mp h2) (List.not_lt.mp h1)
    exact Prod.ext e e2
  · rw [if_neg e] at h1
    rw [if_neg (fun z => e z.symm)] at h2
    simp only [decide_eq_false_iff_not] at h1 h2
    omega
theorem leP_antisymm {a b : W} (ha : pairOk a = true) (hb : pairOk b = true) (h1 : leP a b) (h2 : leP b a) : a = b := by
  obtain ⟨i, l, e1, k1⟩ := pairOk_shape ha
  obtain ⟨j, m, e2, k2⟩ := pairOk_shape hb
  have q := pairLt_tri ((ltK_pair a b).symm.trans h2) ((ltK_pair b a).symm.trans h1)
  rw [k1, k2] at q
  cases q
  rw [e1, e2]
theorem sortP_eq {ws xs : List W} (p : ws.Perm xs) (hs : ws.Pairwise leP) (ok : xs.all pairOk = true) : ws = sortP xs :=
  List.Perm.eq_of_pairwise (fun x y hx hy h1 h2 => leP_antisymm (List.all_eq_true.mp ok x (p.mem_iff.mp hx)) (List.all_eq_true.mp ok y ((sortP_perm xs).mem_iff.mp hy)) h1 h2) hs (sortP_sorted xs) (p.trans (sortP_perm xs).symm)
end Py

namespace Py
open PySem (Addr Value Obj Expr Pos)
section
variable {K : Frag} {al : AL} {H : Hp}
theorem keyS_dec (a b : Key) : decide (keyS a = keyS b) = decide (a = b) := decide_eq_decide.mpr ⟨keyS_inj, fun e => by rw [e]⟩
theorem RepD.val {ys : List (L2.Key × HV)} {kvs : List (Key × W)} (r : RepD K H al ys kvs) (k : Key) : match dGet k kvs with
    | some w => ∃ v, L2.valV ys (keyS k) = some v ∧ Rep K H al v w
    | none => L2.valV ys (keyS k) = none := by
  induction r with
  | nil => simp [dGet, L2.valV]
  | @cons p q ps qs hr _ ih =>
    obtain ⟨q1, q2⟩ := q
    obtain ⟨e, hr⟩ := hr
    simp only at e hr
    by_cases hk : q1 = k
    · subst hk
      simp only [dGet, if_pos]
      exact ⟨p.2, L2.valV_pos e, hr⟩
    · have hne : ¬ p.1 = keyS k := fun z => hk (keyS_inj (e.symm.trans z))
      rw [L2.valV_neg hne]
      simp only [dGet, if_neg hk]
      exact ih
theorem RepD.any {ys : List (L2.Key × HV)} {kvs : List (Key × W)} (r : RepD K H al ys kvs) (k : Key) : (ys.any fun kv => decide (kv.1 = keyS k)) = kvs.any fun q => decide (q.1 = k) := by
  induction r with
  | nil => rfl
  | @cons p q ps qs hr _ ih => rw [List.any_cons, List.any_cons, ih, hr.1, keyS_dec]
theorem Fa2.app {α β : Type} {R : α → β → Prop} : ∀ {as : List α} {bs : List β} {cs : List α} {ds : List β}, Fa2 R as bs → Fa2 R cs ds → Fa2 R (as ++ cs) (bs ++ ds)
  | _, _, _, _, .nil, s => s
  | _, _, _, _, .cons r t, s => .cons r (Fa2.app t s)
theorem Fa2.map2 {α β γ δ : Type} {R : α → β → Prop} {Q : γ → δ → Prop} {f : α → γ} {g : β → δ} (h : ∀ a b, R a b → Q (f a) (g b)) : ∀ {as : List α} {bs : List β}, Fa2 R as bs → Fa2 Q (as.map f) (bs.map g)
  | _, _, .nil => .nil
  | _, _, .cons r t => .cons (h _ _ r) (Fa2.map2 h t)
theorem Fa2.filter {α β : Type} {R : α → β → Prop} {p : α → Bool} {q : β → Bool} (h : ∀ a b, R a b → p a = q b) : ∀ {as : List α} {bs : List β}, Fa2 R as bs → Fa2 R (as.filter p) (bs.filter q)
  | _, _, .nil => .nil
  | _, _, .cons (a := a) (b := b) r t => by
    have e := h _ _ r
    simp only [List.filter_cons, e]
    split
    · exact .cons r (Fa2.filter h t)
    · exact Fa2.filter h t
theorem RepD.put {ys : List (L2.Key × HV)} {kvs : List (Key × W)} (r : RepD K H al ys kvs) (k : Key) {v : HV} {w : W} (rv : Rep K H al v w) : RepD K H al (L2.putK ys (keyS k) v) (dPut k w kvs) := by
  unfold L2.putK dPut
  rw [r.any k]
  split
  · refine Fa2.map2 (fun p q hr => ?_) r
    by_cases hk : q.1 = k
    · rw [if_pos hk, if_pos (by rw [hr.1, hk])]
      exact ⟨hr.1, rv⟩
    · rw [if_neg hk, if_neg (fun z => hk (keyS_inj (hr.1.symm.trans z)))]
      exact hr
  · exact Fa2.app r (.cons ⟨rfl, rv⟩ .nil)
theorem RepD.drop {ys : List (L2.Key × HV)} {kvs : List (Key × W)} (r : RepD K H al ys kvs) (k : Key) : RepD K H al (L2.dropK ys (keyS k)) (dDel k kvs) := by
  refine Fa2.filter (fun p q hr => ?_) r
  exact decide_eq_decide.mpr ⟨fun h e => h (by rw [hr.1, e]), fun h e => h (keyS_inj (hr.1.symm.trans e))⟩
theorem RepD.keys {ys : List (L2.Key × HV)} {kvs : List (Key × W)} (r : RepD K H al ys kvs) : RepL K H al (ys.map fun kv => L2.kV kv.1) (kvs.map fun q => keyW q.1) := by
  induction r with
  | nil => exact .nil
  | @cons p q ps qs hr _ ih => rw [List.map_cons, List.map_cons, hr.1]; exact .cons (keyW_rep _) ih
theorem RepD.dget {G : Gt} {h : MH} (s : HSim K G al H h) {n : Nat} {a : Addr} {kvs : List (Key × W)} (e : al[n]? = some a) (eh : h[n]? = some (.dic kvs)) : ∃ ys, H a = some (.dK ys) ∧ RepD K H al ys kvs := s.obj _ _ _ e eh
end
section
variable {X : L2.Cx} {G : Gt}
def rDin (neg : Bool) : L2.R2 := fun x y H Q => ∃ a o, y = .ref a ∧ L2.DGet H a x o ∧ Q (.bl (if neg then !o.isSome else o.isSome)) H
theorem op_inD (hu : X.A.units + 200 < PySem.cLine) : L2.OpR X (PySem.compareOp .In) (rDin false) := by
  intro pins s σ H x y v u Q I rx ry h
  obtain ⟨a, o, rfl, g, q⟩ := h
  obtain rfl : u = Value.ref a := ry
  exact L2.d_in (by omega) I g rx fun s' I' => ⟨.bl _, H, I', rfl, q⟩
theorem op_notInD (hu : X.A.units + 200 < PySem.cLine) : L2.OpR X (PySem.compareOp .NotIn) (rDin true) := by
  intro pins s σ H x y v u Q I rx ry h
  obtain ⟨a, o, rfl, g, q⟩ := h
  obtain rfl : u = Value.ref a := ry
  exact L2.d_notIn (by omega) I g rx fun s' I' => ⟨.bl _, H, I', rfl, q⟩
theorem sign_S {p : String} {c : Char} (e : p.toList = [c]) : S p = ⟨#[c.toNat]⟩ := by
  have h : (S p).cps = #[c.toNat] := by rw [S_cps, e]; rfl
  cases hS : S p with
  | mk cps => rw [hS] at h; simp only at h; rw [h]
theorem sign_in (c : Char) (t : String) : decide (c.toNat ∈ (S t).cps.toList) = t.toList.contains c := by
  rw [S_cps, List.contains_eq_mem]
  refine decide_eq_decide.mpr ?_
  simp only [List.mem_map]
  exact ⟨fun ⟨d, h, e⟩ => Char.toNat_inj.mp e ▸ h, fun h => ⟨c, h, rfl⟩⟩
theorem inL_some {x : W} {xs : List W} {c : Bool} (e : inL x xs = some c) : x.pure = true ∧ pureAll xs = true ∧ min (depthAll xs) x.depth ≤ 62 ∧ c = xs.any fun y => y.eqv x := by
  unfold inL at e
  split at e
  · rename_i hp
    simp only [Bool.and_eq_true, decide_eq_true_eq] at hp
    exact ⟨hp.1.1, hp.1.2, hp.2, (Option.some.inj e).symm⟩
  · cases e
theorem in_cases {al : AL} {H : Hp} {h : MH} {a b : W} {v u : HV} {c : Bool} {Q : HV → Hp → Prop} (neg : Bool) (s : HSim X.K G al H h) (ra : Rep X.K H al v a) (rb : Rep X.K H al u b) (e : wIn h a b = some c) (q : Q (.bl (if neg then !c else c)) H) :
    (∃ (d : Nat) (z : PySem.Str), v = .str ⟨#[d]⟩ ∧ u = .str z ∧ Q (.bl (if neg then !decide (d ∈ z.cps.toList) else decide (d ∈ z.cps.toList))) H) ∨
    (∃ i j, v = .str i ∧ u = .str j ∧ Q (.bl (if neg then !(!(PySem.Builtin.Str.occurrences j i 0 j.length 1).isEmpty) else !(PySem.Builtin.Str.occurrences j i 0 j.length 1).isEmpty)) H) ∨ rInW X.K neg v u H Q ∨ rDin neg v u H Q := by
  unfold wIn at e
  split at e
  · rename_i t et
    have eu := deref_str rb et
    split at e
    · rename_i p
      cases ra
      split at e
      · rename_i c0 e0
        cases e
        refine .inl ⟨c0.toNat, S t, by rw [sign_S e0], eu, ?_⟩
        rw [sign_in]; exact q
      · cases e
        exact .inr (.inl ⟨S p, S t, rfl, eu, q⟩)
    · cases e
  · rename_i xs et
    obtain ⟨pa, va, rfl, sa, la⟩ := deref_tup rb et
    obtain ⟨h1, h2, h3, rfl⟩ := inL_some e
    refine .inr (.inr (.inl ⟨a, xs, ra.dp h1, .inl (.tup sa.sq (la.dp h2)), h3, ?_⟩))
    rw [any_toDs a h1 xs h2]; exact q
  · rename_i xs et
    obtain ⟨pa, va, rfl, sa, la⟩ := deref_lst s rb et
    obtain ⟨h1, h2, h3, rfl⟩ := inL_some e
    refine .inr (.inr (.inl ⟨a, xs, ra.dp h1, .inr (.lst (.inl (.inl sa)) (la.dp h2)), h3, ?_⟩))
    rw [any_toDs a h1 xs h2]; exact q
  · rename_i n en
    obtain ⟨rfl, pa, rfl, e1⟩ := deref_ref s rb en
    split at e
    · rename_i kvs e2
      simp only [Option.map_eq_some_iff] at e
      obtain ⟨k, e3, rfl⟩ := e
      obtain ⟨ys, e4, rd⟩ := RepD.dget s e1 e2
      have e5 := keyOf_rep ra e3
      subst e5
      refine .inr (.inr (.inr ⟨pa, _, rfl, L2.DGet.k e4, ?_⟩))
      have hv := rd.val k
      have ek : (L2.valV ys (keyS k)).isSome = (dGet k kvs).isSome := by
        split at hv
        · rename_i w ew; obtain ⟨v, ev, _⟩ := hv; rw [ev, ew]; rfl
        · rename_i ew; rw [hv, ew]; rfl
      rw [ek]; exact q
    · cases e
  · cases e
theorem ops_in (hu : X.A.units + 200 < PySem.cLine) : OpS X G (PySem.compareOp .In) (fun h a c => (wCmp .isin h a c).map .bl) := ops_of (L2.OpR.or L2.op_in_sign (L2.OpR.or L2.op_in_str (L2.OpR.or (op_inW hu) (op_inD hu)))) fun al H h a b w v u Q s ra rb e q => by
  simp only [wCmp, Option.map_eq_some_iff] at e
  obtain ⟨c, e, rfl⟩ := e
  exact in_cases false s ra rb e (q al H _ .refl s (.bl _))
theorem ops_notin (hu : X.A.units + 200 < PySem.cLine) : OpS X G (PySem.compareOp .NotIn) (fun h a c => (wCmp .notin h a c).map .bl) := ops_of (L2.OpR.or L2.op_notIn_sign (L2.OpR.or L2.op_notIn_str (L2.OpR.or (op_notInW hu) (op_notInD hu)))) fun al H h a b w v u Q s ra rb e q => by
  simp only [wCmp, Option.map_eq_some_iff] at e
  obtain ⟨c, ⟨d, e, rfl⟩, rfl⟩ := e
  exact in_cases true s ra rb e (q al H _ .refl s (.bl _))

theorem ixN_eq (n : Nat) (i : Int) : ixN n i = L2.ixN n i := rfl
theorem atI_get {α : Type} {xs : List α} {i : Int} {x : α} (e : atI xs i = some x) : ∃ j, L2.ixN xs.length i = some j ∧ xs[j]? = some x := by
  unfold atI at e
  rw [ixN_eq] at e
  cases q : L2.ixN xs.length i with
  | none => rw [q] at e; cases e
  | some j => rw [q] at e; exact ⟨j, rfl, e⟩
theorem atI_of {α : Type} {xs : List α} {i : Int} {x : α} {j : Nat} (e : L2.ixN xs.length i = some j) (g : xs[j]? = some x) : L2.atI xs i = some x := by
  unfold L2.atI; rw [e]; exact g
open PySem PySem.Spec PyProof.Rows in
theorem ix_dict (hu : X.A.units + 200 < PySem.cLine) : L2.IxR X (fun x y H Q => ∃ a v, x = .ref a ∧ L2.DGet H a y (some v) ∧ Q v H) := by
  intro value slice pins s σ H x y v u Q I rx ry h hsub
  obtain ⟨a, z, rfl, g, q⟩ := h
  obtain rfl : v = Value.ref a := rx
  exact tail_any (L2.dict_typeIs I g) slot_dict_getitem.lookup (L2.d_getItem (by omega) I g ry fun w' s' I' rv => ⟨z, H, I', rv, q⟩) hsub
theorem one_S (c : Char) : (⟨#[c.toNat]⟩ : PySem.Str) = S (String.ofList [c]) := by
  have h : (S (String.ofList [c])).cps = #[c.toNat] := by rw [S_cps, String.toList_ofList]; rfl
  cases hS : S (String.ofList [c]) with
  | mk cps => rw [hS] at h; simp only at h; rw [h]
section
variable {T : Tb} {k : Cxt} {pos : Pos} {e1 e2 : Expr} {x1 x2 : Ex}
theorem se_ix (hu : X.A.units + 200 < PySem.cLine) (h1 : SE X G k.xc e1 (ev T k x1)) (h2 : SE X G k.xc e2 (ev T k x2)) (hs : L2.PlainIx e2) : SE X G k.xc (.Subscript e1 e2 pos) (ev T k (.ix x1 x2)) := fun W' tk => by
  refine pe_imp (L2.pe_ix (L2.IxR.or L2.ix_seq (ix_dict hu)) (h1 W' tk) (h2 W' tk) hs) fun σ H Q q => ?_
  obtain ⟨al, ρ, h, a, p⟩ := rd_at q
  simp only [ev] at p
  refine rd_bind a p fun al1 H1 w1 h1 v1 x1 a1 r1 p1 => ?_
  refine rd_bind a1 p1 fun al2 H2 w2 h2 v2 x2 a2 r2 p2 => ?_
  have r1' := r1.mono x2
  cases e : wIx h2 w1 w2 with
  | none => rw [e] at p2; exact p2.elim
  | some w =>
    rw [e] at p2
    have fin : ∀ v, Rep X.K H2 al2 v w → Q v H2 := p2 al2 H2 .refl a2.hs
    unfold wIx at e
    split at e
    · rename_i xs i ed
      obtain ⟨pa, va, rfl, sa, la⟩ := deref_tup r1' ed
      cases r2
      obtain ⟨j, e3, e4⟩ := atI_get e
      obtain ⟨v, e5, rv⟩ := la.get e4
      exact .inl (.inr (.inl ⟨pa, va, _, v, rfl, rfl, sa.sq, atI_of (by rw [la.length]; exact e3) e5, fin v rv⟩))
    · rename_i xs i ed
      obtain ⟨pa, va, rfl, sa, la⟩ := deref_lst a2.hs r1' ed
      cases r2
      obtain ⟨j, e3, e4⟩ := atI_get e
      obtain ⟨v, e5, rv⟩ := la.get e4
      exact .inl (.inl ⟨pa, va, _, v, rfl, rfl, .inl (.inl sa), atI_of (by rw [la.length]; exact e3) e5, fin v rv⟩)
    · rename_i ns i ed
      obtain ⟨pa, rfl, sa⟩ := deref_scr r1' ed
      cases r2
      simp only [Option.map_eq_some_iff] at e
      obtain ⟨z, e, rfl⟩ := e
      obtain ⟨j, e3, e4⟩ := atI_get e
      exact .inl (.inl ⟨pa, _, _, .int z, rfl, rfl, sa, atI_of (by rw [List.length_map]; exact e3) (by rw [List.getElem?_map, e4]; rfl), fin _ (.int z)⟩)
    · rename_i t i ed
      have et := deref_str r1' ed
      cases r2
      split at e
      · rename_i hl
        simp only [Option.map_eq_some_iff] at e
        obtain ⟨c, e, rfl⟩ := e
        obtain ⟨j, e3, e4⟩ := atI_get e
        refine .inl (.inr (.inr ⟨S t, _, c.toNat, et, rfl, by rw [S_len, ← lim_eq]; exact hl, atI_of (j := j) ?_ ?_, ?_⟩))
        · rw [S_cps]; simp only [List.length_map]; exact e3
        · rw [S_cps]; simp only [List.getElem?_map, e4]; rfl
        · rw [one_S]; exact fin _ (.str _)
      · cases e
    · rename_i n kw ed
      obtain ⟨rfl, pa, rfl, e1⟩ := deref_ref a2.hs r1' ed
      split at e
      · rename_i kvs e2
        rw [Option.bind_eq_some_iff] at e
        obtain ⟨kk, e3, e4⟩ := e
        obtain ⟨ys, e5, rd⟩ := RepD.dget a2.hs e1 e2
        have e6 := keyOf_rep r2 e3
        subst e6
        have hv := rd.val kk
        rw [e4] at hv
        obtain ⟨v, ev, rv⟩ := hv
        refine .inr ⟨pa, v, rfl, ?_, fin v rv⟩
        rw [← ev]
        exact L2.DGet.k e5
      · cases e
    · cases e
/-- a bound of a slice -/
def SO (X : L2.Cx) (G : Gt) (xc : Option (Nat × Nat × List (Nat × W))) (e : Option Expr) (m : EM (Option Int)) : Prop := ∀ W', L2N.Takes X W' → L2.PO X e fun σ H Q => ∃ al ρ h, At X G xc σ H al ρ h ∧ PostE X.K G W' σ al H (m ρ h) fun _ H' o _ => Q o H'
theorem so_none : SO X G k.xc none (evo T k .no) := fun W' tk => by
  refine ⟨fun pins s σ H Q I q => L2.po_none.run pins s σ H Q I ?_⟩
  obtain ⟨al, ρ, h, a, p⟩ := q
  simp only [evo] at p
  exact p al H .refl a.hs
theorem so_some (h1 : SE X G k.xc e1 (ev T k x1)) : SO X G k.xc (some e1) (evo T k (.prt x1)) := fun W' tk => by
  refine ⟨fun pins s σ H Q I q => (L2.po_some (h1 W' tk)).run pins s σ H Q I ?_⟩
  obtain ⟨al, ρ, h, a, p⟩ := q
  simp only [evo] at p
  refine rd_bind a p fun al1 H1 w1 h1 v1 x1 a1 r1 p1 => ?_
  cases r1 with
  | int i => exact ⟨i, rfl, p1 al1 H1 .refl a1.hs⟩
  | _ => exact p1.elim
theorem cut_eq {α : Type} (xs : List α) (lo hi : Option Int) : cut xs lo hi = (xs.drop (HT.sIx xs.length 0 lo)).take (HT.sIx xs.length xs.length hi - HT.sIx xs.length 0 lo) := by
  cases lo <;> cases hi <;> rfl
theorem cut_rep {al : AL} {H : Hp} {vs : List HV} {ws : List W} (la : RepL X.K H al vs ws) {lo hi : Option Int} : RepL X.K H al (L2.cutV vs lo hi) (cut ws lo hi) := by
  rw [cut_eq]
  unfold L2.cutV
  rw [la.length]
  exact (la.drop _).take _
open PySem PySem.Spec PyProof.Rows in
theorem se_sl {lo hi : Option Expr} {l u : Ex} {p2 : Pos} (h1 : SE X G k.xc e1 (ev T k x1)) (hl : SO X G k.xc lo (evo T k l)) (hu : SO X G k.xc hi (evo T k u)) : SE X G k.xc (.Subscript e1 (.Slice lo hi none p2) pos) (ev T k (.sl x1 l u)) := fun W' tk => by
  refine pe_imp (L2.pe_slice (L2.SlR.or L2.sl_tupA (L2.SlR.or L2.sl_list L2.sl_str)) (h1 W' tk) (hl W' tk) (hu W' tk)) fun σ H Q q => ?_
  obtain ⟨al, ρ, h, a, p⟩ := rd_at q
  simp only [ev] at p
  refine rd_bind a p fun al1 H1 w1 h1 v1 y1 a1 r1 p1 => ?_
  refine ⟨al1, ρ, h1, a1, p1.bind.imp fun al2 H2 o2 h2 y2 s2 p2 => ?_⟩
  have a2 := a1.next y2 s2
  refine ⟨al2, ρ, h2, a2, p2.bind.imp fun al3 H3 o3 h3 y3 s3 p3 => ?_⟩
  have r := (r1.mono y2).mono y3
  cases e : wSl h3 w1 o2 o3 with
  | none => rw [e] at p3; exact p3.elim
  | some w =>
    rw [e] at p3
    unfold wSl at e
    split at e
    · rename_i xs ed
      cases e
      obtain ⟨pa, va, rfl, sa, la⟩ := deref_tup r ed
      refine .inl ⟨pa, va, rfl, sa.sq, fun hw => ?_, fun hw pp hp => ?_⟩
      · refine p3 al3 H3 .refl s3 _ (.tup sa ?_)
        have : cut xs o2 o3 = xs := by
          rw [cut_eq, ← la.length, hw.1, hw.2]
          simp [la.length]
        rw [this]; exact la
      · have hx := ext_new (o := .tup (L2.cutV va o2 o3)) s3 hp
        refine p3 al3 _ hx (s3.new hp) _ (.tup (.inl ⟨.inl L2.upd_same, s3.out hp⟩) ?_)
        exact (cut_rep la).mono hx
    · rename_i xs ed
      cases e
      obtain ⟨pa, va, rfl, sa, la⟩ := deref_lst s3 r ed
      refine .inr (.inl ⟨pa, va, rfl, .inl (.inl sa), fun pp hp => ?_⟩)
      have hx := ext_new (o := .lst (L2.cutV va o2 o3)) s3 hp
      refine p3 al3 _ hx (s3.new hp) _ (.lst ⟨L2.upd_same, s3.out hp⟩ ?_)
      exact (cut_rep la).mono hx
    · rename_i t ed
      split at e
      · rename_i hl
        cases e
        refine .inr (.inr ⟨S t, deref_str r ed, by rw [S_len, ← lim_eq]; exact hl, ?_⟩)
        have e1 : L2.cutS (S t) o2 o3 = S (String.ofList (cut t.toList o2 o3)) := by
          have h2 : (L2.cutS (S t) o2 o3).cps = (S (String.ofList (cut t.toList o2 o3))).cps := by
            rw [S_cps, String.toList_ofList, cut_eq]
            unfold L2.cutS
            have h3 : (S t).length = t.toList.length := by rw [S_len, String.length_toList]
            simp only [h3, S_cps, List.map_take, List.map_drop]
          cases h4 : L2.cutS (S t) o2 o3 with
          | mk c1 => cases h5 : S (String.ofList (cut t.toList o2 o3)) with
            | mk c2 => rw [h4, h5] at h2; simp only at h2; rw [h2]
        rw [e1]
        exact p3 al3 H3 .refl s3 _ (.str _)
      · cases e
    · cases e
theorem se_rev {kk : Nat} {q1 q2 q3 : Pos} (h1 : SE X G k.xc e1 (ev T k x1)) : SE X G k.xc (.Subscript e1 (.Slice none none (some (.UnaryOp .USub (.Constant (.int 1) kk q1) q2)) q3) pos) (ev T k (.rev x1)) := fun W' tk => by
  refine pe_imp (L2.pe_revL (h1 W' tk)) fun σ H Q q => ?_
  obtain ⟨al, ρ, h, a, p⟩ := rd_at q
  simp only [ev] at p
  refine rd_bind a p fun al1 H1 w1 h1 v1 y1 a1 r1 p1 => ?_
  unfold wRev at p1
  split at p1
  · rename_i xs ed
    obtain ⟨pa, va, rfl, sa, la⟩ := deref_lst a1.hs r1 ed
    refine ⟨pa, va, rfl, .inl (.inl sa), fun pp hp => ?_⟩
    have hx := ext_new (o := .lst va.reverse) a1.hs hp
    exact p1 al1 _ hx (a1.hs.new hp) _ (.lst ⟨L2.upd_same, a1.hs.out hp⟩ (la.reverse.mono hx))
  · exact p1.elim
theorem tru_of {al : AL} {H : Hp} {h : MH} {v : HV} {w : W} {b : Bool} (s : HSim X.K G al H h) (r : Rep X.K H al v w) (e : truth h w = some b) : L2.TruV X.K v H b := by
  cases r with
  | non => cases e; exact rfl
  | bl b => cases e; exact rfl
  | int i => cases e; exact rfl
  | str t =>
    simp only [truth] at e
    split at e
    · rename_i hl
      cases e
      refine ⟨by rw [S_len, ← lim_eq]; exact hl, ?_⟩
      rw [S_len]
      have h1 : t.length = 0 ↔ t = "" := String.length_eq_zero_iff
      by_cases ht : t = ""
      · subst ht; rfl
      · have h2 : t.length ≠ 0 := fun z => ht (h1.mp z)
        have h3 : (t != "") = true := by simpa using ht
        have h4 : (((t.length : Nat) : Int) != 0) = true := by simpa using h2
        rw [h3, h4]
    · cases e
  | tup sa la =>
    cases e
    refine .inr (.inl ⟨_, sa.sq, ?_⟩)
    cases la <;> rfl
  | lst sa la =>
    cases e
    refine .inl ⟨_, .inl (.inl sa.1), ?_⟩
    cases la <;> rfl
  | @scr a ns sa =>
    have sa := sa.sq
    cases e
    refine .inl ⟨_, sa, ?_⟩
    cases ns <;> rfl
  | ref q =>
    rename_i a n
    simp only [truth] at e
    split at e
    · rename_i xs eh
      cases e
      obtain ⟨vs, q1, la⟩ := s.obj _ _ _ q eh
      refine .inl ⟨vs, .inl (.inl q1), ?_⟩
      cases la <;> rfl
    · rename_i kvs eh
      cases e
      obtain ⟨ys, q1, la⟩ := s.obj _ _ _ q eh
      refine .inr (.inr ⟨ys, q1, ?_⟩)
      cases la <;> rfl
    · cases e
theorem evT_and (ρ : Env) (h : MH) : evT T k (.and x1 x2) ρ h = (evT T k x1 ρ h).bind fun b h1 => if b then evT T k x2 ρ h1 else .ok false h1 := by
  unfold evT
  simp only [ev]
  cases e : ev T k x1 ρ h with
  | bad => rfl
  | exc => rfl
  | ok w h1 =>
    simp only [Res.bind_ok]
    cases e2 : truth h1 w with
    | none => rfl
    | some b =>
      cases b with
      | true => rfl
      | false => simp [lift, e2]
theorem evT_or (ρ : Env) (h : MH) : evT T k (.or x1 x2) ρ h = (evT T k x1 ρ h).bind fun b h1 => if b then .ok true h1 else evT T k x2 ρ h1 := by
  unfold evT
  simp only [ev]
  cases e : ev T k x1 ρ h with
  | bad => rfl
  | exc => rfl
  | ok w h1 =>
    simp only [Res.bind_ok]
    cases e2 : truth h1 w with
    | none => rfl
    | some b =>
      cases b with
      | false => rfl
      | true => simp [lift, e2]
theorem evT_not (ρ : Env) (h : MH) : evT T k (.not x1) ρ h = (evT T k x1 ρ h).bind fun b h1 => .ok (!b) h1 := by
  unfold evT
  simp only [ev]
  cases e : ev T k x1 ρ h with
  | bad => rfl
  | exc => rfl
  | ok w h1 =>
    simp only [Res.bind_ok]
    cases e2 : truth h1 w with
    | none => rfl
    | some b => rfl
theorem st_truth (h1 : SE X G k.xc e1 (ev T k x1)) (he : ∀ whole, PySem.isTrue e1 X.env whole = (do let v ← whole; PySem.standAt e1.pos; PySem.holding [v] (PySem.truthy v))) : ST X G k.xc e1 (evT T k x1) := fun W' tk => by
  refine pt_imp (L2.pt_truth (h1 W' tk) he) fun σ H Q q => ?_
  obtain ⟨al, ρ, h, a, p⟩ := rd_atT q
  unfold evT at p
  refine rd_bind a p fun al1 H1 w1 h1 v1 y1 a1 r1 p1 => ?_
  cases e : truth h1 w1 with
  | none => rw [e] at p1; exact p1.elim
  | some b =>
    rw [e] at p1
    exact ⟨b, tru_of a1.hs r1 e, p1 al1 H1 .refl a1.hs⟩
theorem st_not (h1 : ST X G k.xc e1 (evT T k x1)) : ST X G k.xc (.UnaryOp .Not e1 pos) (evT T k (.not x1)) := fun W' tk => by
  refine pt_imp (L2.pt_not (h1 W' tk)) fun σ H Q q => ?_
  obtain ⟨al, ρ, h, a, p⟩ := rd_atT q
  rw [evT_not] at p
  exact rd_bindT a p fun al1 H1 b h1 y1 a1 p1 => p1 al1 H1 .refl a1.hs
def SW (X : L2.Cx) (G : Gt) (xc : Option (Nat × Nat × List (Nat × W))) (e : Expr) (m : EM Bool) : Prop := ∀ W', L2N.Takes X W' → L2.PW X e (rdT X G xc W' m)
theorem SW.st {m : EM Bool} (h : SW X G k.xc e1 m) : ST X G k.xc e1 m := fun W' tk => (h W' tk).pt
theorem sw_and1 (h1 : ST X G k.xc e1 (evT T k x1)) : SW X G k.xc (.BoolOp .And [e1] pos) (evT T k x1) := fun W' tk => L2.pw_and1 (h1 W' tk)
theorem sw_or1 (h1 : ST X G k.xc e1 (evT T k x1)) : SW X G k.xc (.BoolOp .Or [e1] pos) (evT T k x1) := fun W' tk => L2.pw_or1 (h1 W' tk)
theorem sw_and {rest : List Expr} (h1 : ST X G k.xc e1 (evT T k x1)) (h2 : SW X G k.xc (.BoolOp .And (e2 :: rest) pos) (evT T k x2)) : SW X G k.xc (.BoolOp .And (e1 :: e2 :: rest) pos) (evT T k (.and x1 x2)) := fun W' tk => by
  refine pw_imp (L2.pw_and (h1 W' tk) (h2 W' tk)) fun σ H Q q => ?_
  obtain ⟨al, ρ, h, a, p⟩ := rd_atT q
  rw [evT_and] at p
  refine rd_bindT a p fun al1 H1 b h1 y1 a1 p1 => ?_
  cases b with
  | true => exact rd_ofT a1 p1
  | false => exact p1 al1 H1 .refl a1.hs
theorem sw_or {rest : List Expr} (h1 : ST X G k.xc e1 (evT T k x1)) (h2 : SW X G k.xc (.BoolOp .Or (e2 :: rest) pos) (evT T k x2)) : SW X G k.xc (.BoolOp .Or (e1 :: e2 :: rest) pos) (evT T k (.or x1 x2)) := fun W' tk => by
  refine pw_imp (L2.pw_or (h1 W' tk) (h2 W' tk)) fun σ H Q q => ?_
  obtain ⟨al, ρ, h, a, p⟩ := rd_atT q
  rw [evT_or] at p
  refine rd_bindT a p fun al1 H1 b h1 y1 a1 p1 => ?_
  cases b with
  | false => exact rd_ofT a1 p1
  | true => exact p1 al1 H1 .refl a1.hs
theorem st_cmp {o : PySem.CmpOp} {b : Cop} (ho : OpS X G (PySem.compareOp o) fun h a c => (wCmp b h a c).map .bl) (hm : PySem.behindInMarks o e2 = false) (h1 : SE X G k.xc e1 (ev T k x1)) (h2 : SE X G k.xc e2 (ev T k x2)) : ST X G k.xc (.Compare e1 [o] [e2] pos) (evT T k (.cmp b x1 x2)) := fun W' tk => by
  obtain ⟨r, hr, ho⟩ := ho
  refine pt_imp (L2.pt_cmpR hr (h1 W' tk) (h2 W' tk) hm) fun σ H Q q => ?_
  obtain ⟨al, ρ, h, a, p⟩ := rd_atT q
  unfold evT at p
  simp only [ev] at p
  have p := p.bind
  refine rd_bind a p fun al1 H1 w1 h1 v1 x1 a1 r1 p1 => ?_
  refine rd_bind a1 p1 fun al2 H2 w2 h2 v2 x2 a2 r2 p2 => ?_
  cases e : wCmp b h2 w1 w2 with
  | none => rw [e] at p2; exact p2.elim
  | some c =>
    rw [e] at p2
    refine ho al2 H2 h2 w1 w2 (.bl c) v1 v2 _ a2.hs (r1.mono x2) r2 (by show (wCmp b h2 w1 w2).map W.bl = _; rw [e]; rfl) fun al' H' z x s r => ?_
    cases r
    exact ⟨c, rfl, (p2 al' H' x s) al' H' .refl s⟩
theorem se_not (h1 : SE X G k.xc e1 (ev T k x1)) : SE X G k.xc (.UnaryOp .Not e1 pos) (ev T k (.not x1)) := fun W' tk => by
  refine pe_imp (L2.pe_notT (h1 W' tk)) fun σ H Q q => ?_
  obtain ⟨al, ρ, h, a, p⟩ := rd_at q
  simp only [ev] at p
  refine rd_bind a p fun al1 H1 w1 h1 v1 y1 a1 r1 p1 => ?_
  cases e : truth h1 w1 with
  | none => rw [e] at p1; exact p1.elim
  | some b =>
    rw [e] at p1
    exact ⟨b, tru_of a1.hs r1 e, p1 al1 H1 .refl a1.hs _ (.bl _)⟩
theorem se_one {o : PySem.BoolOp} (h1 : SE X G k.xc e1 (ev T k x1)) : SE X G k.xc (.BoolOp o [e1] pos) (ev T k x1) := fun W' tk => L2.pe_one (h1 W' tk)
theorem se_and {rest : List Expr} (h1 : SE X G k.xc e1 (ev T k x1)) (h2 : SE X G k.xc (.BoolOp .And (e2 :: rest) pos) (ev T k x2)) : SE X G k.xc (.BoolOp .And (e1 :: e2 :: rest) pos) (ev T k (.and x1 x2)) := fun W' tk => by
  refine pe_imp (L2.pe_andT (h1 W' tk) (h2 W' tk)) fun σ H Q q => ?_
  obtain ⟨al, ρ, h, a, p⟩ := rd_at q
  simp only [ev] at p
  refine rd_bind a p fun al1 H1 w1 h1 v1 y1 a1 r1 p1 => ?_
  cases e : truth h1 w1 with
  | none => rw [e] at p1; exact p1.elim
  | some b =>
    rw [e] at p1
    refine ⟨b, tru_of a1.hs r1 e, ?_⟩
    cases b with
    | true => exact rd_of a1 p1
    | false => exact p1 al1 H1 .refl a1.hs v1 r1
theorem se_or {rest : List Expr} (h1 : SE X G k.xc e1 (ev T k x1)) (h2 : SE X G k.xc (.BoolOp .Or (e2 :: rest) pos) (ev T k x2)) : SE X G k.xc (.BoolOp .Or (e1 :: e2 :: rest) pos) (ev T k (.or x1 x2)) := fun W' tk => by
  refine pe_imp (L2.pe_orT (h1 W' tk) (h2 W' tk)) fun σ H Q q => ?_
  obtain ⟨al, ρ, h, a, p⟩ := rd_at q
  simp only [ev] at p
  refine rd_bind a p fun al1 H1 w1 h1 v1 y1 a1 r1 p1 => ?_
  cases e : truth h1 w1 with
  | none => rw [e] at p1; exact p1.elim
  | some b =>
    rw [e] at p1
    refine ⟨b, tru_of a1.hs r1 e, ?_⟩
    cases b with
    | true => exact p1 al1 H1 .refl a1.hs v1 r1
    | false => exact rd_of a1 p1
theorem se_ite {e3 : Expr} {x3 : Ex} (h1 : ST X G k.xc e1 (evT T k x1)) (h2 : SE X G k.xc e2 (ev T k x2)) (h3 : SE X G k.xc e3 (ev T k x3)) : SE X G k.xc (.IfExp e1 e2 e3 pos) (ev T k (.ite x1 x2 x3)) := fun W' tk => by
  refine pe_imp (L2.pe_ifExp (h1 W' tk) (h2 W' tk) (h3 W' tk)) fun σ H Q q => ?_
  obtain ⟨al, ρ, h, a, p⟩ := rd_at q
  have e : ev T k (.ite x1 x2 x3) ρ h = (evT T k x1 ρ h).bind fun b h2 => if b then ev T k x2 ρ h2 else ev T k x3 ρ h2 := by
    simp only [ev, evT]
    cases ev T k x1 ρ h with
    | bad => rfl
    | exc => rfl
    | ok w h1 => rfl
  rw [e] at p
  refine rd_bindT a p fun al1 H1 b h1 y1 a1 p1 => ?_
  cases b with
  | true => exact rd_of a1 p1
  | false => exact rd_of a1 p1
theorem se_neg (h1 : SE X G k.xc e1 (ev T k x1)) : SE X G k.xc (.UnaryOp .USub e1 pos) (ev T k (.neg x1)) := fun W' tk => by
  refine pe_imp (L2.pe_un L2.un_neg (h1 W' tk)) fun σ H Q q => ?_
  obtain ⟨al, ρ, h, a, p⟩ := rd_at q
  simp only [ev] at p
  refine rd_bind a p fun al1 H1 w1 h1 v1 y1 a1 r1 p1 => ?_
  cases r1 with
  | int i => exact ⟨i, rfl, p1 al1 H1 .refl a1.hs _ (.int _)⟩
  | _ => exact p1.elim
end
end
end Py

namespace Py
open PySem (Addr Value Obj Expr Pos)
def tyN : Ty → String
  | .int => "int" | .str => "str" | .bool => "bool" | .tuple => "tuple" | .list => "list" | .dict => "dict"
/-- the classes of the program, as they stand -/
structure ClsF (K : Frag) (G : Gt) (T : Tb) : Prop where
  cls : ∀ c C, G.cls c = some C → L2.Cls K C
  fok : ∀ c f, (T.flds c).contains f = true → G.fok c f = true
  noat : ∀ c C f, G.cls c = some C → f ∈ T.flds c → L2.NoAttr K C (G.fnm f)
  ca : ∀ c C, G.cls c = some C → PySem.W.findIn K (.ref C) "__class__" = some (some (.builtin "object.__class__")) ∧ PySem.W.specialIn K (.builtin "object.__class__") "__get__" = some (some (.builtin "getset_descriptor.__get__")) ∧ PySem.W.takesIn K (.builtin "object.__class__") = some true ∧ PySem.W.mroIn K C (.type "object") = some true
  kit : ∀ c C t, G.cls c = some C → PySem.W.kitOne K (.ref C) (.type (tyN t)) = some false
section
variable {K : Frag} {G : Gt} {al : AL} {H : Hp}
theorem RepF.get {gs : List (PySem.Str × HV)} {fs : List (Nat × W)} (r : RepF K G H al gs fs) (f : Nat) : match fGet f fs with
    | some w => ∃ v, gs.lookup (G.fnm f) = some v ∧ Rep K H al v w
    | none => gs.lookup (G.fnm f) = none := by
  induction r with
  | nil => simp [fGet]
  | @cons p q ps qs hr _ ih =>
    obtain ⟨q1, q2⟩ := q
    obtain ⟨p1, p2⟩ := p
    obtain ⟨e, hr⟩ := hr
    simp only at e hr
    subst e
    by_cases hk : q1 = f
    · subst hk
      simp only [fGet, if_pos, List.lookup_cons, beq_self_eq_true]
      exact ⟨p2, rfl, hr⟩
    · have hne : (G.fnm f == G.fnm q1) = false := beq_eq_false_iff_ne.mpr fun z => hk (G.inj _ _ z).symm
      simp only [fGet, if_neg hk, List.lookup_cons, hne]
      exact ih
theorem RepF.put {gs : List (PySem.Str × HV)} {fs : List (Nat × W)} (r : RepF K G H al gs fs) (f : Nat) {v : HV} {w : W} (rv : Rep K H al v w) : RepF K G H al (L2.putF (G.fnm f) v gs) (fPut f w fs) := by
  induction r with
  | nil => exact .cons ⟨rfl, rv⟩ .nil
  | @cons p q ps qs hr t ih =>
    obtain ⟨q1, q2⟩ := q
    obtain ⟨p1, p2⟩ := p
    obtain ⟨e, hr⟩ := hr
    simp only at e hr
    subst e
    by_cases hk : q1 = f
    · subst hk
      simp only [fPut, if_pos, L2.putF]
      exact .cons ⟨rfl, rv⟩ t
    · have hne : ¬ G.fnm q1 = G.fnm f := fun z => hk (G.inj _ _ z)
      simp only [fPut, if_neg hk, L2.putF, if_neg hne]
      exact .cons ⟨rfl, hr⟩ ih
end
theorem fPut_mem {f : Nat} {w : W} : ∀ {fs : List (Nat × W)} {p : Nat × W}, p ∈ fPut f w fs → p.1 = f ∨ p ∈ fs
  | [], p, h => by
    simp only [fPut, List.mem_singleton] at h
    exact .inl (by rw [h])
  | (q, u) :: r, p, h => by
    unfold fPut at h
    split at h
    · rename_i e
      rcases List.mem_cons.mp h with h | h
      · exact .inl (by rw [h]; exact e)
      · exact .inr (List.mem_cons_of_mem _ h)
    · rcases List.mem_cons.mp h with h | h
      · exact .inr (by rw [h]; exact List.mem_cons_self)
      · exact (fPut_mem h).imp id (List.mem_cons_of_mem _)
theorem RepI.put {K : Frag} {G : Gt} {al : AL} {H : Hp} {c : Nat} {gs : List (PySem.Str × HV)} {fs : List (Nat × W)} (r : RepI K G H al c gs fs) (f : Nat) {v : HV} {w : W} (rv : Rep K H al v w) (hf : G.fok c f = true) : RepI K G H al c (L2.putF (G.fnm f) v gs) (fPut f w fs) :=
  ⟨r.rep.put f rv, fun p hp => by
    rcases fPut_mem hp with h | h
    · rw [h]; exact hf
    · exact r.ok p h⟩
section
variable {X : L2.Cx} {G : Gt} {T : Tb} {k : Cxt} {pos : Pos} {e1 e2 : Expr} {x1 x2 : Ex}
theorem se_fld {f : Nat} {nm : PySem.Str} (F : ClsF X.K G T) (hn : nm = G.fnm f) (h1 : SE X G k.xc e1 (ev T k x1)) (hb : PySem.attributeBase e1 nm X.env (PySem.eval e1 X.env) = PySem.eval e1 X.env) : SE X G k.xc (.Attribute e1 nm pos) (ev T k (.fld x1 f)) := fun W' tk => by
  refine pe_imp (L2.pe_fld (h1 W' tk) hb) fun σ H Q q => ?_
  obtain ⟨al, ρ, h, a, p⟩ := rd_at q
  simp only [ev] at p
  refine rd_bind a p fun al1 H1 w1 h1 v1 y1 a1 r1 p1 => ?_
  split at p1
  · rename_i n
    split at p1
    · rename_i c fs eh
      split at p1
      · rename_i hc
        cases r1 with
        | ref q =>
          obtain ⟨C, dx, gs, e0, e1, _, rf⟩ := a1.hs.obj _ _ _ q eh
          have hg := rf.rep.get f
          cases e : fGet f fs with
          | none => rw [e] at p1; exact p1.elim
          | some w =>
            rw [e] at p1 hg
            obtain ⟨v, ev, rv⟩ := hg
            exact ⟨_, C, dx, gs, v, rfl, e1, F.cls c C e0, by rw [hn]; exact F.noat c C f e0 (by simpa using hc), by rw [hn]; exact ev, p1 al1 H1 .refl a1.hs v rv⟩
      · exact p1.elim
    · exact p1.elim
  · exact p1.elim
open PySem PySem.Spec in
theorem pe_xfld {X : L2.Cx} {G : Gt} {T : Tb} {k : Cxt} {i f : Nat} {x nm : PySem.Str} {pos p0 : Pos} (hX : ∀ c C, xfOk T c f = true → G.xcl c = some C → L2.XfC X.K C ∧ PySem.W.findIn X.K (.ref C) nm = some none) (hn : nm = G.fnm f) (hN : X.N[i]? = some x) (hv : L2.Vis X.env.scope x)
    (hd : (x == ("__debug__" : PySem.Str)) = false) (hcd : (x == ("__classdict__" : PySem.Str)) = false) (hb : attributeBase (.Name x p0) nm X.env (eval (.Name x p0) X.env) = eval (.Name x p0) X.env) : SE X G k.xc (.Attribute (.Name x p0) nm pos) (ev T k (.xfld i f)) := fun W' tk => by
  refine ⟨fun pins s σ H Q I q => ?_⟩
  obtain ⟨al, ρ, h, a, p⟩ := rd_at q
  simp only [ev] at p
  have xs := a.xs
  cases e : k.xc with
  | none => rw [e] at p; exact p.elim
  | some z =>
    obtain ⟨j, c, fs⟩ := z
    rw [e] at p xs
    obtain ⟨b, oe, vs, hpn, hσ, hdat, _, C, hC, hcls, hr⟩ := xs
    simp only at p
    split at p
    case isFalse => exact p.elim
    rename_i hmem
    obtain ⟨rfl, hmem⟩ := hmem
    cases e2 : fGet f fs with
    | none => rw [e2] at p; exact p.elim
    | some w =>
      rw [e2] at p
      obtain ⟨TX, hno⟩ := hX c C hmem hC
      rcases hr with ⟨rfl, _⟩ | ⟨_, dd, gs, hdd, hout, hdx, rf⟩
      · cases e2
      have hg := rf.get f
      rw [e2] at hg
      obtain ⟨v, hlk, rv⟩ := hg
      refine L2.attr_of hb ((L2.pe_var hN hv hd hcd).run pins s σ H (fun x' H' => x' = .ref b ∧ H' = H) I ⟨.ref b, hσ, rfl, rfl⟩ |> fun z => L2.thn z fun u s1 ⟨y, H1, I1, ry, ey, eH⟩ => ?_)
      subst ey eH
      obtain rfl : u = Value.ref b := ry
      obtain ⟨ha, _⟩ := I1.pin (b, oe) (List.mem_append_left _ hpn)
      obtain ⟨mA, hns, hrr⟩ := (show L2.ObjOk X.prog X.w H1 s1.heap dd (.xd gs) from I1.hok dd _ hdx)
      obtain ⟨od, ho, hl⟩ := L2.lookIn_ns hns
      obtain ⟨u, hu, ru⟩ := L2.RelO.some_of (v := v) (o := mA nm) (by rw [← hlk, ← hn]; exact hrr nm)
      have J : PySem.W.InstAt s1.heap b oe C (some od) := ⟨ha, hcls, by unfold PySem.W.notCls; rw [hdat] <;> rfl, by rw [hdd]; exact ho⟩
      exact HandSPX.exc_get I1.kIn J TX.ga TX.gg TX.exC (PySem.W.findObj_own TX.hdC hno rfl (by rw [hl, hu])) (L2.handed_of ru) ⟨v, H1, I1.tok _, ru, p al H1 .refl a.hs v rv⟩
end
end Py

namespace Py
open PySem (Addr Value Obj Expr Pos)
section
variable {X : L2.Cx} {G : Gt} {T : Tb} {k : Cxt} {pos : Pos} {e1 e2 : Expr} {x1 x2 : Ex}
/-- the keys and values of a display -/
def SD (X : L2.Cx) (G : Gt) (xc : Option (Nat × Nat × List (Nat × W))) (pos : Pos) (ks : List (Option Expr)) (vs : List Expr) (m : EM (List (Key × W))) : Prop := ∀ W', L2N.Takes X W' → ∃ trs, L2.PPs X pos ks vs trs ∧
  ∀ σ H Q, (∃ al ρ h, At X G xc σ H al ρ h ∧ PostE X.K G W' σ al H (m ρ h) fun al' H' kvs _ => ∀ ys, RepD X.K H' al' ys kvs → Q (ys.map fun q => (L2.kV q.1, q.2)) H') → L2.tPairs trs σ H Q
theorem sd_nil : SD X G k.xc pos [] [] (evd T k .nil) := fun W' tk => by
  refine ⟨[], L2.pps_nil, fun σ H Q q => ?_⟩
  obtain ⟨al, ρ, h, a, p⟩ := q
  simp only [evd] at p
  exact p al H .refl a.hs [] .nil
theorem sd_cons {r : Ex} {ks : List (Option Expr)} {vs : List Expr} (h1 : SE X G k.xc e1 (ev T k x1)) (h2 : SE X G k.xc e2 (ev T k x2)) (hr : SD X G k.xc pos ks vs (evd T k r)) : SD X G k.xc pos (some e1 :: ks) (e2 :: vs) (evd T k (.cons x1 (.cons x2 r))) := fun W' tk => by
  obtain ⟨trs, pp, rd⟩ := hr W' tk
  refine ⟨_, L2.pps_cons (h1 W' tk) (h2 W' tk) pp, fun σ H Q q => ?_⟩
  obtain ⟨al, ρ, h, a, p⟩ := q
  simp only [evd] at p
  refine rd_bind a p fun al1 H1 w1 h1 v1 y1 a1 r1 p1 => ?_
  refine rd_bind a1 p1 fun al2 H2 w2 h2 v2 y2 a2 r2 p2 => ?_
  cases e : keyOf w1 with
  | none => rw [e] at p2; exact p2.elim
  | some kk =>
    rw [e] at p2
    have e6 := keyOf_rep (r1.mono y2) e
    subst e6
    refine rd σ H2 _ ⟨al2, ρ, h2, a2, PostE.imp (PostE.bind p2) fun al3 H3 kvs h3 y3 s3 p3 ys ry => ?_⟩
    exact p3 al3 H3 .refl s3 ((keyS kk, v2) :: ys) (.cons ⟨rfl, r2.mono y3⟩ ry)
theorem valV_none : ∀ (ys : List (L2.Key × HV)) (q : L2.Key), q ∉ ys.map (·.1) → L2.valV ys q = none
  | [], _, _ => rfl
  | y :: ys, q, h => by
    rw [List.map_cons, List.mem_cons, not_or] at h
    rw [L2.valV_neg (Ne.symm h.1)]
    exact valV_none ys q h.2
theorem merge_nd : ∀ (ys acc : List (L2.Key × HV)), (ys.map (·.1)).Nodup → (∀ y ∈ ys, y.1 ∉ acc.map (·.1)) → L2.mergeK acc ys = acc ++ ys
  | [], acc, _, _ => by simp [L2.mergeK]
  | y :: ys, acc, h1, h2 => by
    rw [List.map_cons, List.nodup_cons] at h1
    show L2.mergeK (L2.putK acc y.1 y.2) ys = _
    rw [L2.putK_new _ (valV_none acc y.1 (h2 y List.mem_cons_self))]
    rw [merge_nd ys _ h1.2 fun z hz => ?_]
    · simp
    · rw [List.map_append, List.mem_append, not_or]
      refine ⟨h2 z (List.mem_cons_of_mem _ hz), fun hm => h1.1 ?_⟩
      have : z.1 = y.1 := by simpa using hm
      rw [← this]
      exact List.mem_map.mpr ⟨z, hz, rfl⟩
theorem RepD.nd {K : Frag} {H : Hp} {al : AL} {ys : List (L2.Key × HV)} {kvs : List (Key × W)} (r : RepD K H al ys kvs) (h : (kvs.map (·.1)).Nodup) : (ys.map (·.1)).Nodup := by
  have e : ys.map (·.1) = (kvs.map (·.1)).map keyS := by
    induction r with
    | nil => rfl
    | @cons p q ps qs hr _ ih =>
      rw [List.map_cons, List.map_cons, List.map_cons, hr.1, ih]
      rw [List.map_cons, List.nodup_cons] at h
      exact h.2
  rw [e]
  exact List.pairwise_map.mpr (List.Pairwise.imp (fun hne e => hne (keyS_inj e)) h)
theorem se_dct0 : SE X G k.xc (.Dict [] [] pos) (ev T k (.dct .nil)) := fun W' tk => by
  refine pe_imp L2.pe_dnewK fun σ H Q q => ?_
  obtain ⟨al, ρ, h, a, p⟩ := rd_at q
  simp only [ev, evd, Res.bind_ok, List.map_nil, List.nodup_nil, if_true] at p
  intro pp hp
  have hx := ext_add (o := .dK []) a.hs hp
  exact p _ _ hx (a.hs.add hp ⟨[], L2.upd_same, .nil⟩) (.ref pp) (.ref (by rw [← a.hs.len]; exact get_last))
theorem se_dct {kv : Ex} {ks : List (Option Expr)} {vs : List Expr} (hd : SD X G k.xc pos ks vs (evd T k kv)) (hall : ks.all (·.isSome) = true) (hl : ks.length = vs.length) (h0 : ks ≠ []) (h15 : ks.length ≤ 15) (hlen : ∀ ρ h kvs h', evd T k kv ρ h = .ok kvs h' → kvs.length ≤ 15) : SE X G k.xc (.Dict ks vs pos) (ev T k (.dct kv)) := fun W' tk => by
  obtain ⟨trs, pp, rd⟩ := hd W' tk
  refine pe_imp (L2.pe_disp pp hall hl h0 h15) fun σ H Q q => ?_
  obtain ⟨al, ρ, h, a, p⟩ := rd_at q
  simp only [ev] at p
  intro pd hp
  have hx := ext_new (o := .dK []) a.hs hp
  have a0 := a.next hx (a.hs.new hp)
  refine rd σ _ _ ⟨al, ρ, h, a0, ?_⟩
  cases e : evd T k kv ρ h with
  | bad => rw [e] at p; exact p
  | exc c fs h1 =>
    rw [e] at p
    exact fun al' H' cls d x s xr => p al' H' cls d (hx.trans x) s xr
  | ok kvs h1 =>
    rw [e] at p
    simp only [Res.bind_ok] at p
    intro al2 H2 x2 s2 ys ry
    split at p
    · rename_i hnd
      have np : pd ∉ al := a.hs.out hp
      have hH2 : H2 pd = some (.dK []) := x2.keep pd _ L2.upd_same np
      have np2 : pd ∉ al2 := x2.out L2.upd_same np
      refine ⟨hH2, ys, rfl, by rw [ry.length]; exact hlen _ _ _ _ e, ?_⟩
      rw [merge_nd ys [] (ry.nd hnd) (fun _ _ => by simp), List.nil_append]
      have xa := ext_adopt (o := .dK ys) np2 (.inr ⟨[], hH2⟩)
      have sf : HSim X.K G (al2 ++ [pd]) (L2.upd H2 pd (.dK ys)) (h1 ++ [.dic kvs]) := s2.adopt np2 (.inr ⟨[], hH2⟩) ⟨ys, L2.upd_same, ry.monoW xa⟩
      have xf : Ext al H (al2 ++ [pd]) (L2.upd H2 pd (.dK ys)) := by
        have x0 := hx.trans x2
        obtain ⟨r, er⟩ := x0.pre
        refine ⟨⟨r ++ [pd], by rw [er, AL.app_assoc]⟩, fun a u q n => ?_, fun a hm n => ?_, fun a ha => ?_, fun a o u ha q => ?_⟩
        · have ne : a ≠ pd := fun z => by rw [z, hp] at q; cases q
          rw [L2.upd_ne ne]
          exact x0.keep a u q n
        · rcases AL.mem_app hm with z | z
          · exact x0.new a z n
          · rw [List.mem_singleton.mp z]; exact hp
        · have ne : a ≠ pd := fun z => np (z ▸ .inr ha)
          rw [L2.upd_ne ne]
          exact x0.fen a ha
        · have ne : a ≠ pd := fun z => by rw [z, hp] at q; cases q
          rw [L2.upd_ne ne]
          exact x0.frz a o u ha q
      exact p _ _ xf sf (.ref pd) (.ref (by rw [← s2.len]; exact get_last))
    · exact p.elim
theorem se_isN {j : Nat} {p' : Pos} (h1 : SE X G k.xc e1 (ev T k x1)) : SE X G k.xc (.Compare e1 [.Is] [.Constant .none j p'] pos) (ev T k (.isc x1 .non)) := fun W' tk => by
  refine pe_imp (L2.pe_cmpR L2.op_isN (h1 W' tk) L2.pe_non (by rfl)) fun σ H Q q => ?_
  obtain ⟨al, ρ, h, a, p⟩ := rd_at q
  simp only [ev] at p
  refine rd_bind a p fun al1 H1 w1 h1 v1 y1 a1 r1 p1 => ?_
  refine ⟨rfl, ?_⟩
  cases r1 <;> exact p1 al1 H1 .refl a1.hs _ (.bl _)
theorem se_notN {j : Nat} {p' : Pos} (h1 : SE X G k.xc e1 (ev T k x1)) : SE X G k.xc (.Compare e1 [.IsNot] [.Constant .none j p'] pos) (ev T k (.not (.isc x1 .non))) := fun W' tk => by
  refine pe_imp (L2.pe_cmpR L2.op_notN (h1 W' tk) L2.pe_non (by rfl)) fun σ H Q q => ?_
  obtain ⟨al, ρ, h, a, p⟩ := rd_at q
  simp only [ev] at p
  have p := p.bind
  refine rd_bind a p fun al1 H1 w1 h1 v1 y1 a1 r1 p1 => ?_
  refine ⟨rfl, ?_⟩
  cases r1 <;> exact (p1 al1 H1 .refl a1.hs) al1 H1 .refl a1.hs _ (.bl _)
theorem se_isB {b : Bool} {j : Nat} {p' : Pos} (h1 : SE X G k.xc e1 (ev T k x1)) : SE X G k.xc (.Compare e1 [.Is] [.Constant (.bool b) j p'] pos) (ev T k (.isc x1 (.bl b))) := fun W' tk => by
  refine pe_imp (L2.pe_cmpR L2.op_isBl (h1 W' tk) L2.pe_bl (by rfl)) fun σ H Q q => ?_
  obtain ⟨al, ρ, h, a, p⟩ := rd_at q
  simp only [ev] at p
  refine rd_bind a p fun al1 H1 w1 h1 v1 y1 a1 r1 p1 => ?_
  cases r1 with
  | bl c => exact ⟨c, b, rfl, rfl, p1 al1 H1 .refl a1.hs _ (.bl _)⟩
  | _ => exact p1.elim
theorem se_notB {b : Bool} {j : Nat} {p' : Pos} (h1 : SE X G k.xc e1 (ev T k x1)) : SE X G k.xc (.Compare e1 [.IsNot] [.Constant (.bool b) j p'] pos) (ev T k (.not (.isc x1 (.bl b)))) := fun W' tk => by
  refine pe_imp (L2.pe_cmpR L2.op_notBl (h1 W' tk) L2.pe_bl (by rfl)) fun σ H Q q => ?_
  obtain ⟨al, ρ, h, a, p⟩ := rd_at q
  simp only [ev] at p
  have p := p.bind
  refine rd_bind a p fun al1 H1 w1 h1 v1 y1 a1 r1 p1 => ?_
  cases r1 with
  | bl c => exact ⟨c, b, rfl, rfl, (p1 al1 H1 .refl a1.hs) al1 H1 .refl a1.hs _ (.bl _)⟩
  | _ => exact p1.elim
theorem evT_isc {c : W} (ρ : Env) (h : MH) : evT T k (.isc x1 c) ρ h = (ev T k x1 ρ h).bind fun w h1 => lift (wIs w c) h1 := by
  unfold evT
  simp only [ev]
  cases ev T k x1 ρ h with
  | bad => rfl
  | exc => rfl
  | ok w h1 =>
    simp only [Res.bind_ok]
    cases wIs w c with
    | none => rfl
    | some b => rfl
theorem st_isN {j : Nat} {p' : Pos} (h1 : SE X G k.xc e1 (ev T k x1)) : ST X G k.xc (.Compare e1 [.Is] [.Constant .none j p'] pos) (evT T k (.isc x1 .non)) := fun W' tk => by
  refine pt_imp (L2.pt_cmpR L2.op_isN (h1 W' tk) L2.pe_non (by rfl)) fun σ H Q q => ?_
  obtain ⟨al, ρ, h, a, p⟩ := rd_atT q
  rw [evT_isc] at p
  refine rd_bind a p fun al1 H1 w1 h1 v1 y1 a1 r1 p1 => ?_
  refine ⟨rfl, ?_⟩
  cases r1 <;> exact ⟨_, rfl, p1 al1 H1 .refl a1.hs⟩
theorem st_notN {j : Nat} {p' : Pos} (h1 : SE X G k.xc e1 (ev T k x1)) : ST X G k.xc (.Compare e1 [.IsNot] [.Constant .none j p'] pos) (evT T k (.not (.isc x1 .non))) := fun W' tk => by
  refine pt_imp (L2.pt_cmpR L2.op_notN (h1 W' tk) L2.pe_non (by rfl)) fun σ H Q q => ?_
  obtain ⟨al, ρ, h, a, p⟩ := rd_atT q
  rw [evT_not, evT_isc] at p
  have p := p.bind
  refine rd_bind a p fun al1 H1 w1 h1 v1 y1 a1 r1 p1 => ?_
  refine ⟨rfl, ?_⟩
  cases r1 <;> exact ⟨_, rfl, (p1 al1 H1 .refl a1.hs) al1 H1 .refl a1.hs⟩
theorem st_isB {b : Bool} {j : Nat} {p' : Pos} (h1 : SE X G k.xc e1 (ev T k x1)) : ST X G k.xc (.Compare e1 [.Is] [.Constant (.bool b) j p'] pos) (evT T k (.isc x1 (.bl b))) := fun W' tk => by
  refine pt_imp (L2.pt_cmpR L2.op_isBl (h1 W' tk) L2.pe_bl (by rfl)) fun σ H Q q => ?_
  obtain ⟨al, ρ, h, a, p⟩ := rd_atT q
  rw [evT_isc] at p
  refine rd_bind a p fun al1 H1 w1 h1 v1 y1 a1 r1 p1 => ?_
  cases r1 with
  | bl c => exact ⟨c, b, rfl, rfl, _, rfl, p1 al1 H1 .refl a1.hs⟩
  | _ => exact p1.elim
theorem st_notB {b : Bool} {j : Nat} {p' : Pos} (h1 : SE X G k.xc e1 (ev T k x1)) : ST X G k.xc (.Compare e1 [.IsNot] [.Constant (.bool b) j p'] pos) (evT T k (.not (.isc x1 (.bl b)))) := fun W' tk => by
  refine pt_imp (L2.pt_cmpR L2.op_notBl (h1 W' tk) L2.pe_bl (by rfl)) fun σ H Q q => ?_
  obtain ⟨al, ρ, h, a, p⟩ := rd_atT q
  rw [evT_not, evT_isc] at p
  have p := p.bind
  refine rd_bind a p fun al1 H1 w1 h1 v1 y1 a1 r1 p1 => ?_
  cases r1 with
  | bl c => exact ⟨c, b, rfl, rfl, _, rfl, (p1 al1 H1 .refl a1.hs) al1 H1 .refl a1.hs⟩
  | _ => exact p1.elim
end
end Py

namespace Py
open PySem (Addr Value Obj Expr Pos)
def OkP (X : L2.Cx) (G : Gt) (al : AL) (H : Hp) (Q : HV → Hp → Prop) : Res W → Prop
  | .ok w h' => ∀ al' H' v, Ext al H al' H' → HSim X.K G al' H' h' → Rep X.K H' al' v w → Q v H'
  | _ => False
/-- a call's rule by values serves the evaluator's function -/
def CallS (X : L2.Cx) (G : Gt) (f : Value) (g : List W → MH → Res W) : Prop :=
  ∃ r, L2.CallR X f r ∧ ∀ al H h ws vs (Q : HV → Hp → Prop), HSim X.K G al H h → RepL X.K H al vs ws →
    OkP X G al H Q (g ws h) → r vs H Q
theorem CallS.post {X : L2.Cx} {G : Gt} {W' : WX} {σ : L2.St} {H : Hp} {al : AL} {r : Res W} {Q : HV → Hp → Prop} (p : PostE X.K G W' σ al H r fun al' H' w _ => ∀ v, Rep X.K H' al' v w → Q v H') (hx : ∀ c fs h, r ≠ .exc c fs h) : OkP X G al H Q r := by
  cases r with
  | ok w h' => exact fun al' H' v x s rv => p al' H' x s v rv
  | exc c fs h => exact absurd rfl (hx c fs h)
  | bad => exact p
theorem lift_noexc {α : Type} (o : Option α) (h : MH) (c : Nat) (fs : List (Nat × W)) (h' : MH) : lift o h ≠ .exc c fs h' := by cases o <;> intro e <;> cases e
theorem wBi_noexc (b : Bi) (ws : List W) (h : MH) (c : Nat) (fs : List (Nat × W)) (h' : MH) : wBi b ws h ≠ .exc c fs h' := by
  unfold wBi
  repeat' split
  all_goals first | exact lift_noexc _ _ _ _ _ | (intro e; cases e)
section
variable {X : L2.Cx} {G : Gt} {T : Tb} {k : Cxt} {pos p0 : Pos} {e : Expr} {es : List Expr} {as : Ex} {x : PySem.Str} {id ty : String}
theorem se_biB {b : Bi} (hcalm : X.calm = k.calm) (hc : X.calm = true → CallS X G (.builtin id) (wBi b)) (hg : L2.Gl X x) (hm : X.mg x = none) (hv : PySem.bootBuiltins x = some (.builtin id)) (ha : SA X G k.xc (e :: es) (evs T k as)) (hn : x ≠ "__name__") (hdb : (x == ("__debug__" : PySem.Str)) = false)
    (he : PySem.starEach (e :: es) X.env = (false, PySem.eval e X.env) :: PySem.starEach es X.env) (hpl : (PySem.backTo pos (PySem.starEach es X.env)).any (·.1) = false) : SE X G k.xc (.Call (.Name x p0) (e :: es) [] pos) (ev T k (.bi b as)) := fun W' tk => by
  cases hk : k.calm with
  | false => exact pe_no fun σ H Q q => by obtain ⟨al, ρ, h, a, p⟩ := rd_at q; simp [ev, hk, PostE] at p
  | true =>
    obtain ⟨r, hr, hs⟩ := hc (hcalm.trans hk)
    refine pe_imp (L2.pe_callB hr hg hm hv (ha W' tk) hn hdb he hpl) fun σ H Q q => ?_
    obtain ⟨al, ρ, h, a, p⟩ := rd_at q
    simp only [ev, hk, if_true] at p
    refine rd_bindA a p fun al1 H1 ws h1 vs x1 a1 r1 p1 => ?_
    exact hs al1 H1 h1 ws vs Q a1.hs r1 (CallS.post p1 (wBi_noexc _ _ _))
theorem se_biT {b : Bi} (hcalm : X.calm = k.calm) (hc : X.calm = true → CallS X G (.type ty) (wBi b)) (hg : L2.Gl X x) (hm : X.mg x = none) (hv : PySem.bootBuiltins x = some (.type ty)) (ha : SA X G k.xc (e :: es) (evs T k as)) (hn : x ≠ "__name__") (hdb : (x == ("__debug__" : PySem.Str)) = false)
    (he : PySem.starEach (e :: es) X.env = (false, PySem.eval e X.env) :: PySem.starEach es X.env) (hpl : (PySem.backTo pos (PySem.starEach es X.env)).any (·.1) = false) : SE X G k.xc (.Call (.Name x p0) (e :: es) [] pos) (ev T k (.bi b as)) := fun W' tk => by
  cases hk : k.calm with
  | false => exact pe_no fun σ H Q q => by obtain ⟨al, ρ, h, a, p⟩ := rd_at q; simp [ev, hk, PostE] at p
  | true =>
    obtain ⟨r, hr, hs⟩ := hc (hcalm.trans hk)
    refine pe_imp (L2.pe_callTy hr hg hm hv (ha W' tk) hn hdb he hpl) fun σ H Q q => ?_
    obtain ⟨al, ρ, h, a, p⟩ := rd_at q
    simp only [ev, hk, if_true] at p
    refine rd_bindA a p fun al1 H1 ws h1 vs x1 a1 r1 p1 => ?_
    exact hs al1 H1 h1 ws vs Q a1.hs r1 (CallS.post p1 (wBi_noexc _ _ _))
end
section
variable {X : L2.Cx} {G : Gt}
theorem call_lenD : L2.CallR X (.builtin "len") (fun xs H Q => ∃ a kvs, xs = [.ref a] ∧ H a = some (.dK kvs) ∧ Q (.int kvs.length) H) := by
  intro pins s σ H xs us Q I r q
  obtain ⟨a, kvs, rfl, e, q⟩ := q
  rw [L2.Vals.ref1 r]
  exact L2.d_len I (.inl e) fun t s' I' => ⟨.int _, H, I', ⟨t, rfl⟩, q⟩
theorem RepL.one {K : Frag} {H : Hp} {al : AL} {vs : List HV} {w : W} (r : RepL K H al vs [w]) : ∃ v, vs = [v] ∧ Rep K H al v w := by
  cases r with
  | cons r t => cases t; exact ⟨_, rfl, r⟩
theorem cs_len : CallS X G (.builtin "len") (wBi .len) := by
  refine ⟨_, L2.CallR.or L2.call_len call_lenD, fun al H h ws vs Q s r p => ?_⟩
  rcases ws with _ | ⟨w, _ | ⟨w2, rest⟩⟩
  · exact (show False from p).elim
  · obtain ⟨v, rfl, rv⟩ := r.one
    simp only [wBi] at p
    split at p
    · rename_i t et
      split at p
      · rename_i hl
        refine .inl ⟨v, (S t).length, rfl, ?_, ?_⟩
        · rw [deref_str rv et]; exact ⟨by rw [S_len, ← lim_eq]; exact hl, rfl⟩
        · rw [S_len]; exact p al H _ .refl s (.int _)
      · exact p.elim
    · rename_i xs et
      obtain ⟨pa, va, rfl, sa, la⟩ := deref_tup rv et
      exact .inl ⟨_, xs.length, rfl, .inr ⟨va, sa.sq, la.length.symm⟩, p al H _ .refl s (.int _)⟩
    · rename_i xs et
      obtain ⟨pa, va, rfl, sa, la⟩ := deref_lst s rv et
      exact .inl ⟨_, xs.length, rfl, .inl ⟨va, .inl (.inl sa), la.length.symm⟩, p al H _ .refl s (.int _)⟩
    · rename_i ns et
      obtain ⟨pa, rfl, sa⟩ := deref_scr rv et
      exact .inl ⟨_, ns.length, rfl, .inl ⟨_, sa, by simp⟩, p al H _ .refl s (.int _)⟩
    · rename_i n et
      obtain ⟨rfl, pa, rfl, e1⟩ := deref_ref s rv et
      split at p
      · rename_i kvs e2
        obtain ⟨ys, e3, rd⟩ := RepD.dget s e1 e2
        exact .inr ⟨pa, ys, rfl, e3, by rw [rd.length]; exact p al H _ .refl s (.int _)⟩
      · exact p.elim
    · exact p.elim
  · exact (show False from p).elim
theorem cs_all (hcalm : X.calm = true) : CallS X G (.builtin "all") (wBi .all) := by
  refine ⟨_, L2.cr_all hcalm, fun al H h ws vs Q s r p => ?_⟩
  rcases ws with _ | ⟨w, _ | ⟨w2, rest⟩⟩
  · exact (show False from p).elim
  · obtain ⟨v, rfl, rv⟩ := r.one
    cases rv with
    | lst sa la =>
      rename_i xs
      simp only [wBi] at p
      cases e : blsOf xs with
      | none => rw [e] at p; exact p.elim
      | some l =>
        rw [e] at p
        have := la.bls e
        subst this
        exact ⟨_, l, rfl, .inl (.inl sa.1), p al H _ .refl s (.bl _)⟩
    | _ => exact (show False from p).elim
  · cases w <;> exact (show False from p).elim
theorem cs_int : CallS X G (.type "int") (wBi .int) := by
  refine ⟨_, L2.call_int1, fun al H h ws vs Q s r p => ?_⟩
  rcases ws with _ | ⟨w, _ | ⟨w2, rest⟩⟩
  · exact (show False from p).elim
  · obtain ⟨v, rfl, rv⟩ := r.one
    cases rv with
    | int i => exact .inl ⟨i, rfl, p al H _ .refl s (.int _)⟩
    | bl b => exact .inr ⟨b, rfl, p al H _ .refl s (.int _)⟩
    | _ => exact (show False from p).elim
  · cases w <;> exact (show False from p).elim
theorem log_lt {i : Int} (h1 : -(2 ^ 64) < i) (h2 : i < 2 ^ 64) : i.natAbs.log2 < 1920 := by
  have h : i.natAbs < 2 ^ 64 := by omega
  by_cases hz : i.natAbs = 0
  · rw [hz]; decide
  · have : i.natAbs.log2 < 64 := (Nat.log2_lt hz).mpr h
    omega
theorem cs_str : CallS X G (.type "str") (wBi .str) := by
  refine ⟨_, L2.call_str_int, fun al H h ws vs Q s r p => ?_⟩
  rcases ws with _ | ⟨w, _ | ⟨w2, rest⟩⟩
  · exact (show False from p).elim
  · obtain ⟨v, rfl, rv⟩ := r.one
    cases rv with
    | int i =>
      simp only [wBi] at p
      split at p
      · rename_i hl
        exact ⟨i, rfl, log_lt hl.1 hl.2, p al H _ .refl s (.str (toString i))⟩
      · exact p.elim
    | _ => exact (show False from p).elim
  · cases w <;> exact (show False from p).elim
theorem cs_list (hcalm : X.calm = true) : CallS X G (.type "list") (wBi .list) := by
  refine ⟨_, L2.CallR.or L2.call_list_of (L2.call_listD hcalm), fun al H h ws vs Q s r p => ?_⟩
  rcases ws with _ | ⟨w, _ | ⟨w2, rest⟩⟩
  · exact (show False from p).elim
  · obtain ⟨v, rfl, rv⟩ := r.one
    simp only [wBi] at p
    split at p
    · rename_i xs et
      obtain ⟨pa, va, rfl, sa, la⟩ := deref_tup rv et
      refine .inl ⟨pa, va, rfl, .inr sa.sq, fun l hl => ?_⟩
      have hx := ext_new (o := .lst va) s hl
      exact p al _ _ hx (s.new hl) (.lst ⟨L2.upd_same, s.out hl⟩ (la.mono hx))
    · rename_i xs et
      obtain ⟨pa, va, rfl, sa, la⟩ := deref_lst s rv et
      refine .inl ⟨pa, va, rfl, .inl (.inl (.inl sa)), fun l hl => ?_⟩
      have hx := ext_new (o := .lst va) s hl
      exact p al _ _ hx (s.new hl) (.lst ⟨L2.upd_same, s.out hl⟩ (la.mono hx))
    · rename_i n et
      obtain ⟨rfl, pa, rfl, e1⟩ := deref_ref s rv et
      split at p
      · rename_i kvs e2
        obtain ⟨ys, e3, rd⟩ := RepD.dget s e1 e2
        refine .inr ⟨pa, ys, rfl, .inl e3, fun l hl => ?_⟩
        have hx := ext_new (o := .lst (ys.map fun kv => L2.kV kv.1)) s hl
        exact p al _ _ hx (s.new hl) (.lst ⟨L2.upd_same, s.out hl⟩ (rd.keys.mono hx))
      · exact p.elim
    · exact p.elim
  · exact (show False from p).elim
theorem cs_tuple : CallS X G (.type "tuple") (wBi .tuple) := by
  refine ⟨_, L2.call_tuple_of, fun al H h ws vs Q s r p => ?_⟩
  rcases ws with _ | ⟨w, _ | ⟨w2, rest⟩⟩
  · exact (show False from p).elim
  · obtain ⟨v, rfl, rv⟩ := r.one
    simp only [wBi] at p
    split at p
    · rename_i xs et
      obtain ⟨pa, va, rfl, sa, la⟩ := deref_tup rv et
      exact ⟨pa, va, rfl, .inr ⟨sa.sq, p al H _ .refl s (.tup sa la)⟩⟩
    · rename_i xs et
      obtain ⟨pa, va, rfl, sa, la⟩ := deref_lst s rv et
      refine ⟨pa, va, rfl, .inl ⟨.inl (.inl sa), fun l hl => ?_⟩⟩
      have hx := ext_new (o := .tup va) s hl
      exact p al _ _ hx (s.new hl) (.tup (.inl ⟨.inl L2.upd_same, s.out hl⟩) (la.mono hx))
    · exact p.elim
  · exact (show False from p).elim
theorem pairs_of {K : Frag} {al : AL} {H : Hp} : ∀ (xs : List W) (acc kvs : List (Key × W)) (ys : List (L2.Key × HV)) (vs : List HV), RepL K H al vs xs → RepD K H al ys acc → dOf xs acc = some kvs →
    ∃ (ps : List Addr) (ms : List (L2.Key × HV)), vs = ps.map L2.V.ref ∧ PySem.Paired (fun p (kv : L2.Key × HV) => L2.SqT K H p [L2.kV kv.1, kv.2]) ps ms ∧ RepD K H al (L2.mergeK ys ms) kvs
  | [], acc, kvs, ys, vs, r, ra, e => by
    cases r
    simp only [dOf, Option.some.injEq] at e
    subst e
    exact ⟨[], [], rfl, .nil, ra⟩
  | .tup [a, b] :: xs, acc, kvs, ys, vs, r, ra, e => by
    cases r with
    | cons r1 r2 =>
      cases r1 with
      | tup sa la =>
        cases la with
        | cons la1 la2 => cases la2 with
          | cons lb1 lb2 =>
            cases lb2
            simp only [dOf, Option.bind_eq_some_iff] at e
            obtain ⟨q, e1, e2⟩ := e
            have := keyOf_rep la1 e1
            subst this
            obtain ⟨ps, ms, e3, e4, e5⟩ := pairs_of xs _ kvs _ _ r2 (ra.put q lb1) e2
            exact ⟨_ :: ps, (keyS q, _) :: ms, by rw [e3]; rfl, .cons sa.sq e4, e5⟩
  | .non :: _, _, _, _, _, _, _, e => by cases e
  | .bl _ :: _, _, _, _, _, _, _, e => by cases e
  | .int _ :: _, _, _, _, _, _, _, e => by cases e
  | .str _ :: _, _, _, _, _, _, _, e => by cases e
  | .lst _ :: _, _, _, _, _, _, _, e => by cases e
  | .ref _ :: _, _, _, _, _, _, _, e => by cases e
  | .scr _ :: _, _, _, _, _, _, _, e => by cases e
  | .tup [] :: _, _, _, _, _, _, _, e => by cases e
  | .tup [_] :: _, _, _, _, _, _, _, e => by cases e
  | .tup (_ :: _ :: _ :: _) :: _, _, _, _, _, _, _, e => by cases e
theorem cs_dict (hcalm : X.calm = true) : CallS X G (.type "dict") (wBi .dict) := by
  refine ⟨_, L2.CallR.or (L2.call_dictP hcalm) L2.call_dictD, fun al H h ws vs Q s r p => ?_⟩
  rcases ws with _ | ⟨w, _ | ⟨w2, rest⟩⟩
  · exact (show False from p).elim
  · obtain ⟨v, rfl, rv⟩ := r.one
    simp only [wBi] at p
    split at p
    · rename_i xs et
      obtain ⟨pa, va, rfl, sa, la⟩ := deref_lst s rv et
      split at p
      · rename_i kvs e1
        obtain ⟨ps, ms, e3, e4, e5⟩ := pairs_of xs [] kvs [] va la .nil e1
        subst e3
        refine .inl ⟨pa, ps, ms, rfl, .inl (.inl sa), e4, fun l hl => ?_⟩
        have hx := ext_add (o := .dK (L2.mergeK [] ms)) s hl
        exact p _ _ _ hx (s.add hl ⟨_, L2.upd_same, e5.mono hx⟩) (.ref (by rw [← s.len]; exact get_last))
      · exact p.elim
    · rename_i n et
      obtain ⟨rfl, pa, rfl, e1⟩ := deref_ref s rv et
      split at p
      · rename_i kvs e2
        obtain ⟨ys, e3, rd⟩ := RepD.dget s e1 e2
        refine .inr ⟨pa, ys, rfl, .inl e3, fun l hl => ?_⟩
        have hx := ext_add (o := .dK ys) s hl
        exact p _ _ _ hx (s.add hl ⟨_, L2.upd_same, rd.mono hx⟩) (.ref (by rw [← s.len]; exact get_last))
      · exact p.elim
    · exact p.elim
  · exact (show False from p).elim
end
end Py

namespace Py
open PySem (Addr Value Obj Expr Pos)
theorem insInt_perm (x : Int) : ∀ l : List Int, (insInt x l).Perm (x :: l)
  | [] => .refl _
  | y :: r => by
    unfold insInt
    split
    · exact .refl _
    · exact ((insInt_perm x r).cons y).trans (.swap x y r)
theorem sortInt_perm : ∀ l : List Int, (sortInt l).Perm l
  | [] => .refl _
  | x :: r => (insInt_perm x _).trans ((sortInt_perm r).cons x)
theorem insInt_sorted (x : Int) : ∀ l : List Int, l.Pairwise (· ≤ ·) → (insInt x l).Pairwise (· ≤ ·)
  | [], _ => List.pairwise_singleton _ _
  | y :: r, h => by
    unfold insInt
    rw [List.pairwise_cons] at h
    split
    · rename_i hxy
      refine List.pairwise_cons.mpr ⟨fun z hz => ?_, List.pairwise_cons.mpr h⟩
      rcases List.mem_cons.mp hz with rfl | hz
      · exact hxy
      · exact Int.le_trans hxy (h.1 z hz)
    · rename_i hxy
      refine List.pairwise_cons.mpr ⟨fun z hz => ?_, insInt_sorted x r h.2⟩
      rcases List.mem_cons.mp ((insInt_perm x r).mem_iff.mp hz) with rfl | hz
      · omega
      · exact h.1 z hz
theorem sortInt_sorted : ∀ l : List Int, (sortInt l).Pairwise (· ≤ ·)
  | [] => List.Pairwise.nil
  | x :: r => insInt_sorted x _ (sortInt_sorted r)
theorem sorted_unique {a b : List Int} (p : a.Perm b) (h1 : a.Pairwise (· ≤ ·)) (h2 : b.Pairwise (· ≤ ·)) : a = b :=
  List.Perm.eq_of_pairwise (fun x y _ _ h1 h2 => Int.le_antisymm h1 h2) h1 h2 p
theorem sortInt_eq {a b : List Int} (p : a.Perm b) (h1 : a.Pairwise (· ≤ ·)) : a = sortInt b := sorted_unique (p.trans (sortInt_perm b).symm) h1 (sortInt_sorted b)
section
variable {X : L2.Cx} {G : Gt}
theorem dic_ints {K : Frag} {H : Hp} {al : AL} {ys : List (L2.Key × HV)} {kvs : List (Key × W)} {l : List Int} (r : RepD K H al ys kvs) (e : intsOf (kvs.map fun q => keyW q.1) = some l) : ys.map (·.1) = l.map Sum.inl := by
  induction r generalizing l with
  | nil => simp [intsOf] at e; subst e; rfl
  | @cons p q ps qs hr _ ih =>
    obtain ⟨q1, q2⟩ := q
    cases q1 with
    | inl i =>
      simp only [List.map_cons, keyW, intsOf, Option.map_eq_some_iff] at e
      obtain ⟨m, e1, rfl⟩ := e
      rw [List.map_cons, List.map_cons, ih e1, hr.1]
      rfl
    | inr s => simp [keyW, intsOf] at e
theorem intsOf_len : ∀ (ws : List W) (l : List Int), intsOf ws = some l → l.length = ws.length
  | [], l, e => by simp [intsOf] at e; subst e; rfl
  | .int i :: ws, l, e => by
    simp only [intsOf, Option.map_eq_some_iff] at e
    obtain ⟨m, e1, rfl⟩ := e
    simp [intsOf_len ws m e1]
  | .non :: _, _, e => by cases e
  | .bl _ :: _, _, e => by cases e
  | .str _ :: _, _, e => by cases e
  | .tup _ :: _, _, e => by cases e
  | .lst _ :: _, _, e => by cases e
  | .ref _ :: _, _, e => by cases e
  | .scr _ :: _, _, e => by cases e
theorem wSorted_ints {xs ys : List W} (h : ∃ i r, xs = .int i :: r) (e : wSorted xs = some ys) : ∃ l, intsOf xs = some l ∧ xs.length < 64 ∧ ys = (sortInt l).map .int := by
  obtain ⟨i, r, rfl⟩ := h
  simp only [wSorted] at e
  split at e
  · rename_i hl
    simp only [Option.map_eq_some_iff] at e
    obtain ⟨l, e1, rfl⟩ := e
    exact ⟨l, e1, hl, rfl⟩
  · cases e
theorem strsOf_len : ∀ (ws : List W) (l : List String), strsOf ws = some l → l.length = ws.length
  | [], l, e => by simp [strsOf] at e; subst e; rfl
  | w :: ws, l, e => by
    cases w <;> simp only [strsOf] at e <;> try (cases e; done)
    obtain ⟨m, e1, rfl⟩ := Option.map_eq_some_iff.mp e
    simp [strsOf_len ws m e1]
theorem wSorted_strs {xs ys : List W} (h : ∃ i r, xs = .str i :: r) (e : wSorted xs = some ys) : ∃ l, strsOf xs = some l ∧ xs.length < 64 ∧ ys = (sortStr l).map .str := by
  obtain ⟨i, r, rfl⟩ := h
  simp only [wSorted] at e
  split at e
  · rename_i hl
    simp only [Option.map_eq_some_iff] at e
    obtain ⟨l, e1, rfl⟩ := e
    exact ⟨l, e1, hl, rfl⟩
  · cases e
def unS (s : PySem.Str) : String := String.ofList (s.cps.toList.map Char.ofNat)
theorem unS_S (s : String) : unS (S s) = s := by
  unfold unS
  rw [S_cps]
  simp [Function.comp_def, Char.ofNat_toNat]
theorem perm_map {ys : List PySem.Str} {l : List String} (h : ys.Perm (l.map S)) : ∃ l' : List String, l'.Perm l ∧ ys = l'.map S := by
  refine ⟨ys.map unS, ?_, ?_⟩
  · have := h.map unS
    rw [List.map_map] at this
    have e : l.map (unS ∘ S) = l := by
      rw [show (unS ∘ S) = id from funext unS_S, List.map_id]
    rw [e] at this
    exact this
  · rw [List.map_map]
    refine (List.map_id ys).symm.trans (List.map_congr_left fun y hy => ?_)
    obtain ⟨s, _, rfl⟩ := List.mem_map.mp (h.mem_iff.mp hy)
    show S s = S (unS (S s))
    rw [unS_S]
/-- sorted of whole numbers: of a list, of a dict's keys -/
theorem strsOf_strs : ∀ l : List String, strsOf (l.map W.str) = some l
  | [] => rfl
  | x :: r => by simp [strsOf, strsOf_strs r]
theorem RepL.zip {K : Frag} {H : Hp} {al : AL} : ∀ {vs : List HV} {ws : List W}, RepL K H al vs ws → ∃ L : List (HV × W), vs = L.map (·.1) ∧ ws = L.map (·.2) ∧ ∀ q ∈ L, Rep K H al q.1 q.2
  | _, _, .nil => ⟨[], rfl, rfl, fun _ h => by cases h⟩
  | v :: vs, w :: ws, .cons r t => by
    obtain ⟨L, h1, h2, h3⟩ := t.zip
    refine ⟨(v, w) :: L, by rw [List.map_cons, ← h1], by rw [List.map_cons, ← h2], fun q hq => ?_⟩
    rcases List.mem_cons.mp hq with rfl | hq
    · exact r
    · exact h3 q hq
theorem repL_zip {K : Frag} {H : Hp} {al : AL} : ∀ (L : List (HV × W)), (∀ q ∈ L, Rep K H al q.1 q.2) → RepL K H al (L.map (·.1)) (L.map (·.2))
  | [], _ => .nil
  | q :: L, h => .cons (h q List.mem_cons_self) (repL_zip L fun u hu => h u (List.mem_cons_of_mem _ hu))
theorem cs_sorted (hcalm : X.calm = true) (hu : X.A.units + 200 < PySem.cLine) : CallS X G (.builtin "sorted") (wBi .sorted) := by
  refine ⟨_, L2.CallR.or (L2.CallR.or (L2.CallR.or L2.cr_sorted L2.cr_sortedS) (L2.call_sortedDI hcalm)) (cr_sortedPS keyP hu), fun al H h ws vs Q s r p => ?_⟩
  rcases ws with _ | ⟨w, _ | ⟨w2, rest⟩⟩
  · exact (show False from p).elim
  · obtain ⟨v, rfl, rv⟩ := r.one
    simp only [wBi] at p
    split at p
    · rename_i xs et
      obtain ⟨pa, va, rfl, sa, la⟩ := deref_lst s rv et
      rcases xs with _ | ⟨x, xs⟩
      · cases la
        refine .inl (.inl (.inl ⟨pa, [], rfl, .inl (.inl sa), by decide, fun ns' pp hp _ hn => ?_⟩))
        rw [List.perm_nil.mp hp]
        have hx := ext_new (o := .lst (([] : List Int).map L2.V.int)) s hn
        exact p al _ _ hx (s.new hn) (.lst ⟨L2.upd_same, s.out hn⟩ .nil)
      · cases x with
        | int i =>
          cases e : wSorted (W.int i :: xs) with
          | none => rw [e] at p; exact p.elim
          | some ys =>
            rw [e] at p
            obtain ⟨l, e1, hl, rfl⟩ := wSorted_ints ⟨i, xs, rfl⟩ e
            have := la.ints e1
            subst this
            refine .inl (.inl (.inl ⟨pa, l, rfl, .inl (.inl sa), by rw [intsOf_len _ _ e1]; exact hl, fun ns' pp hp hs hn => ?_⟩))
            rw [sortInt_eq hp hs]
            have hx := ext_new (o := .lst ((sortInt l).map L2.V.int)) s hn
            exact p al _ _ hx (s.new hn) (.lst ⟨L2.upd_same, s.out hn⟩ ((repL_ints _).mono hx))
        | str s0 =>
          cases e : wSorted (W.str s0 :: xs) with
          | none => rw [e] at p; exact p.elim
          | some ys =>
            rw [e] at p
            obtain ⟨l, e1, hl, rfl⟩ := wSorted_strs ⟨s0, xs, rfl⟩ e
            have := la.strs e1
            subst this
            have h1 : (l.map fun s => L2.V.str (S s)) = (l.map S).map L2.V.str := by rw [List.map_map]; rfl
            rw [h1] at sa
            refine .inl (.inl (.inr ⟨pa, l.map S, rfl, .inl (.inl sa), by rw [List.length_map, strsOf_len _ _ e1]; exact hl, fun ys' pp hp hs hn => ?_⟩))
            obtain ⟨l', hl', rfl⟩ := perm_map hp
            rw [sortStr_eq hl' (sorted_all hs)]
            have hx := ext_new (o := .lst (((sortStr l).map S).map L2.V.str)) s hn
            refine p al _ _ hx (s.new hn) (.lst ⟨L2.upd_same, s.out hn⟩ ?_)
            have h2 := repL_strs (K := X.K) (H := H) (al := al) (sortStr l)
            rw [show ((sortStr l).map fun s => L2.V.str (S s)) = ((sortStr l).map S).map L2.V.str by rw [List.map_map]; rfl] at h2
            exact h2.mono hx
        | tup zs =>
          simp only [wSorted] at p
          split at p
          case isFalse => exact p.elim
          rename_i ok
          obtain ⟨L, rfl, e2, hL⟩ := la.zip
          refine .inr ⟨pa, L, rfl, .inl (.inl sa), fun q hq => ?_, fun L' pp hp pw hn => ?_⟩
          · have okq : pairOk q.2 = true := List.all_eq_true.mp ok q.2 (by rw [e2]; exact List.mem_map.mpr ⟨q, hq, rfl⟩)
            obtain ⟨i, l, e3, e4⟩ := pairOk_shape okq
            have rq := hL q hq
            unfold keyP
            rw [e4]
            rw [e3] at rq
            generalize q.1 = v at rq ⊢
            cases rq with
            | tup st rl =>
              cases rl with
              | cons ra rl =>
                cases rl with
                | cons rb rl =>
                  cases rl
                  cases ra
                  cases rb with
                  | tup st2 rl2 =>
                    refine ⟨_, _, rfl, st.sq, ?_⟩
                    have q2 := rl2.strs (strsOf_strs l)
                    subst q2
                    have q3 := st2.sq
                    rw [show (l.map fun s => L2.V.str (S s)) = (l.map S).map L2.V.str by rw [List.map_map]; rfl] at q3
                    exact q3
          · have hx := ext_new (o := .lst (L'.map (·.1))) s hn
            have e5 : L'.map (·.2) = sortP (.tup zs :: xs) := sortP_eq (by rw [e2]; exact hp.map _) (List.pairwise_map.mpr pw) ok
            simp only [Option.map_some, lift_some] at p
            rw [← e5] at p
            exact p al _ _ hx (s.new hn) (.lst ⟨L2.upd_same, s.out hn⟩ ((repL_zip L' fun q hq => hL q (hp.mem_iff.mp hq)).mono hx))
        | _ => exact (show False from p).elim
    · rename_i n et
      obtain ⟨rfl, pa, rfl, e1⟩ := deref_ref s rv et
      split at p
      · rename_i kvs e2
        obtain ⟨ys, e3, rd⟩ := RepD.dget s e1 e2
        rcases kvs with _ | ⟨q, kvs⟩
        · cases rd
          refine .inl (.inr ⟨pa, [], [], rfl, .inl e3, rfl, by decide, fun ns' pp hp _ hn => ?_⟩)
          rw [List.perm_nil.mp hp]
          have hx := ext_new (o := .lst (([] : List Int).map L2.V.int)) s hn
          exact p al _ _ hx (s.new hn) (.lst ⟨L2.upd_same, s.out hn⟩ .nil)
        · obtain ⟨q1, q2⟩ := q
          cases q1 with
          | inl i =>
            cases e : wSorted ((((Sum.inl i : Key), q2) :: kvs).map fun q => keyW q.1) with
            | none => rw [e] at p; exact p.elim
            | some ys' =>
              rw [e] at p
              obtain ⟨l, e4, hl, rfl⟩ := wSorted_ints (xs := (((Sum.inl i : Key), q2) :: kvs).map fun q => keyW q.1) ⟨i, kvs.map (fun q => keyW q.1), rfl⟩ e
              refine .inl (.inr ⟨pa, ys, l, rfl, .inl e3, dic_ints rd e4, by rw [intsOf_len _ _ e4]; exact hl, fun ns' pp hp hs hn => ?_⟩)
              rw [sortInt_eq hp hs]
              have hx := ext_new (o := .lst ((sortInt l).map L2.V.int)) s hn
              exact p al _ _ hx (s.new hn) (.lst ⟨L2.upd_same, s.out hn⟩ ((repL_ints _).mono hx))
          | inr z => exact (show False from p).elim
      · exact p.elim
    · exact p.elim
  · exact (show False from p).elim
theorem maxI_spec : ∀ (l : List Int) (m : Int), maxI m l ∈ m :: l ∧ ∀ y, y ∈ m :: l → y ≤ maxI m l
  | [], m => ⟨List.mem_cons_self, fun y hy => by simp [maxI] at hy ⊢; omega⟩
  | x :: r, m => by
    unfold maxI
    by_cases hx : x > m
    · rw [if_pos hx]
      have h := maxI_spec r x
      refine ⟨List.mem_cons_of_mem _ h.1, fun y hy => ?_⟩
      rcases List.mem_cons.mp hy with rfl | hy
      · have := h.2 x List.mem_cons_self; omega
      · exact h.2 y hy
    · rw [if_neg hx]
      have h := maxI_spec r m
      refine ⟨?_, fun y hy => ?_⟩
      · rcases List.mem_cons.mp h.1 with z | z
        · rw [z]; exact List.mem_cons_self
        · exact List.mem_cons_of_mem _ (List.mem_cons_of_mem _ z)
      · rcases List.mem_cons.mp hy with rfl | hy
        · exact h.2 _ List.mem_cons_self
        · rcases List.mem_cons.mp hy with rfl | hy
          · have := h.2 m List.mem_cons_self; omega
          · exact h.2 y (List.mem_cons_of_mem _ hy)
theorem cs_max (hcalm : X.calm = true) : CallS X G (.builtin "max") (wBi .max) := by
  refine ⟨_, L2.CallR.or (L2.cr_max hcalm) (L2.call_max2 hcalm), fun al H h ws vs Q s r p => ?_⟩
  rcases ws with _ | ⟨w, _ | ⟨w2, _ | ⟨w3, rest⟩⟩⟩
  · exact (show False from p).elim
  · obtain ⟨v, rfl, rv⟩ := r.one
    cases rv with
    | lst sa la =>
      rename_i xs
      simp only [wBi] at p
      split at p
      · rename_i i r e
        have := la.ints e
        subst this
        refine .inl ⟨_, i :: r, rfl, .inl (.inl sa.1), by simp, fun m hm hle => ?_⟩
        have sp := maxI_spec r i
        have : m = maxI i r := Int.le_antisymm (sp.2 m hm) (hle _ sp.1)
        rw [this]
        exact p al H _ .refl s (.int _)
      · exact p.elim
    | _ => exact (show False from p).elim
  · cases r with
    | cons r1 r2 =>
      obtain ⟨v2, rfl, rz⟩ := r2.one
      cases r1 <;> cases rz <;> first | exact (show False from p).elim | exact .inr ⟨_, _, rfl, p al H _ .refl s (.int _)⟩
  · cases w <;> cases w2 <;> exact (show False from p).elim
end
/-- what is asked of how a method call is written -/
structure McF (X : L2.Cx) (o : Expr) (m : PySem.Str) (apos : Pos) (es : List Expr) (cpos : Pos) : Prop where
  base : PySem.attributeBase o m X.env (PySem.eval o X.env) = PySem.eval o X.env
  few : ((PySem.backTo cpos (PySem.starEach es X.env)).all (fun x => !x.1) && (PySem.backToKw cpos (PySem.keywordEach [] X.env)).all (fun x => x.1.isSome)
      && decide (es.length + ([] : List PySem.Keyword).length + (if ([] : List PySem.Keyword).isEmpty then 0 else 1) < 30)) = true
  line : (apos.endLine == cpos.line) = true
  trees : PySem.starEach es X.env = es.map fun e => (false, PySem.eval e X.env)
section
variable {X : L2.Cx} {G : Gt} {T : Tb} {k : Cxt} {pos apos : Pos} {e1 e2 e3 : Expr} {x1 x2 x3 : Ex}
theorem trees_any {env : PySem.Env} {pos : Pos} {es : List Expr} (h : PySem.starEach es env = es.map fun e => (false, PySem.eval e env)) : (PySem.backTo pos (PySem.starEach es env)).any (·.1) = false := by
  rw [h]
  unfold PySem.backTo
  simp [List.any_eq_false]
theorem trees_tail {env : PySem.Env} {e : Expr} {es : List Expr} (h : PySem.starEach (e :: es) env = (e :: es).map fun e => (false, PySem.eval e env)) : PySem.starEach es env = es.map fun e => (false, PySem.eval e env) := by
  cases e <;> simp [PySem.starEach] at h ⊢ <;> exact h
theorem trees_head {env : PySem.Env} {e : Expr} {es : List Expr} (h : PySem.starEach (e :: es) env = (e :: es).map fun e => (false, PySem.eval e env)) : PySem.starEach (e :: es) env = (false, PySem.eval e env) :: PySem.starEach es env := by
  rw [trees_tail h, h]; rfl
theorem wBm_noexc (b : Bm) (o : W) (ws : List W) (h : MH) (c : Nat) (fs : List (Nat × W)) (h' : MH) : wBm b o ws h ≠ .exc c fs h' := by
  unfold wBm
  repeat' split
  all_goals first | exact lift_noexc _ _ _ _ _ | (intro e; cases e)
/-- a method's rule by values serves the evaluator's -/
def MetS (X : L2.Cx) (G : Gt) (ty : String) (r : HV → List HV → Hp → L2.VK → Prop) (m : Bm) : Prop :=
  (∀ al H h o v, HSim X.K G al H h → Rep X.K H al v o → bmOk m h o = true → L2.tyV X.K ty v H) ∧
  ∀ al H h o ws v vs (Q : HV → Hp → Prop), HSim X.K G al H h → Rep X.K H al v o → RepL X.K H al vs ws → OkP X G al H Q (wBm m o ws h) → r v vs H Q
theorem se_bm {ty id : String} {name : PySem.Str} {m : Bm} {r : HV → List HV → Hp → L2.VK → Prop} {es : List Expr} {as : Ex} (hcalm : X.calm = k.calm) (pa : PySem.PlainAttrs ty) (slot : PySem.Slot ty name id) (hty : PySem.typeOf (.builtin id) = pure (.type "method_descriptor")) (hm : L2.MtR X id r)
    (hs : MetS X G ty r m) (h1 : SE X G k.xc e1 (ev T k x1)) (ha : SA X G k.xc (e2 :: es) (evs T k as)) (f : McF X e1 name apos (e2 :: es) pos) : SE X G k.xc (.Call (.Attribute e1 name apos) (e2 :: es) [] pos) (ev T k (.bm m x1 as)) := fun W' tk => by
  refine pe_imp (L2.pe_bm pa slot hty hm (h1 W' tk) (ha W' tk) f.base f.few f.line (trees_head f.trees) (trees_any (trees_tail f.trees))) fun σ H Q q => ?_
  obtain ⟨al, ρ, h, a, p⟩ := rd_at q
  simp only [ev] at p
  split at p
  case isFalse => exact p.elim
  refine rd_bind a p fun al1 H1 w1 h1 v1 y1 a1 r1 p1 => ?_
  split at p1
  case isFalse => exact p1.elim
  rename_i hok
  refine ⟨hs.1 _ _ _ _ _ a1.hs r1 hok, rd_bindA a1 p1 fun al2 H2 ws h2 vs y2 a2 r2 p2 => ?_⟩
  exact hs.2 _ _ _ _ _ _ _ _ a2.hs (r1.mono y2) r2 (CallS.post p2 (wBm_noexc _ _ _ _))
theorem se_bm0 {ty id : String} {name : PySem.Str} {m : Bm} {r : HV → List HV → Hp → L2.VK → Prop} (hcalm : X.calm = k.calm) (pa : PySem.PlainAttrs ty) (slot : PySem.Slot ty name id) (hty : PySem.typeOf (.builtin id) = pure (.type "method_descriptor")) (hm : L2.MtR X id r)
    (hs : MetS X G ty r m) (h1 : SE X G k.xc e1 (ev T k x1)) (f : McF X e1 name apos [] pos) : SE X G k.xc (.Call (.Attribute e1 name apos) [] [] pos) (ev T k (.bm m x1 .nil)) := fun W' tk => by
  refine pe_imp (L2.pe_bm0 pa slot hty hm (h1 W' tk) f.base f.line) fun σ H Q q => ?_
  obtain ⟨al, ρ, h, a, p⟩ := rd_at q
  simp only [ev] at p
  split at p
  case isFalse => exact p.elim
  refine rd_bind a p fun al1 H1 w1 h1 v1 y1 a1 r1 p1 => ?_
  split at p1
  case isFalse => exact p1.elim
  rename_i hok
  simp only [evs, Res.bind_ok] at p1
  exact ⟨hs.1 _ _ _ _ _ a1.hs r1 hok, hs.2 _ _ _ _ _ _ _ _ a1.hs r1 .nil (CallS.post p1 (wBm_noexc _ _ _ _))⟩
theorem ty_list {m : Bm} (hm : m = .append ∨ m = .extend ∨ m = .pop) : ∀ al H h o v, HSim X.K G al H h → Rep X.K H al v o → bmOk m h o = true → L2.tyV X.K "list" v H := fun al H h o v s r e => by
  cases r with
  | @ref pa n e0 =>
    have : ∃ xs, h[n]? = some (.lst xs) := by
      rcases hm with rfl | rfl | rfl <;>
      · simp only [bmOk] at e
        split at e
        · rename_i xs eh; exact ⟨xs, eh⟩
        · cases e
    obtain ⟨xs, eh⟩ := this
    obtain ⟨vs, e1, _⟩ := s.obj _ _ _ e0 eh
    exact .inl ⟨rfl, _, .inl (.inl e1)⟩
  | _ => rcases hm with rfl | rfl | rfl <;> cases e
theorem ms_append : MetS X G "list" L2.rAppend .append := by
  refine ⟨ty_list (.inl rfl), fun al H h o ws v vs Q s r rl p => ?_⟩
  rcases ws with _ | ⟨w, _ | ⟨w2, rest⟩⟩
  · cases o <;> exact (show False from p).elim
  · obtain ⟨u, rfl, rv⟩ := rl.one
    cases r with
    | @ref pa n e0 =>
      simp only [wBm] at p
      split at p
      · rename_i xs eh
        split at p
        · rename_i hl
          obtain ⟨ys, e1, la⟩ := s.obj _ _ _ e0 eh
          refine ⟨pa, ys, u, rfl, rfl, e1, by rw [la.length, ← lim_eq]; exact hl, ?_⟩
          have hx : Ext al H al (L2.upd H pa (.lst (ys ++ [u]))) := ext_set s e0 e1
          exact p al _ _ hx (s.set e0 ⟨_, L2.upd_same, (la.mono hx).append (.cons (rv.mono hx) .nil)⟩) .non
        · exact p.elim
      · exact p.elim
    | _ => exact (show False from p).elim
  · cases o <;> exact (show False from p).elim
theorem ms_extend : MetS X G "list" L2.rExtend .extend := by
  refine ⟨ty_list (.inr (.inl rfl)), fun al H h o ws v vs Q s r rl p => ?_⟩
  rcases ws with _ | ⟨w, _ | ⟨w2, rest⟩⟩
  · cases o <;> exact (show False from p).elim
  · obtain ⟨u, rfl, rv⟩ := rl.one
    cases r with
    | @ref pa n e0 =>
      simp only [wBm] at p
      split at p
      · rename_i xs zs eh et
        split at p
        · rename_i hl
          obtain ⟨ys, e1, la⟩ := s.obj _ _ _ e0 eh
          obtain ⟨pb, vb, rfl, sb, lb⟩ := deref_lst s rv et
          refine ⟨pa, pb, ys, vb, rfl, rfl, e1, sb, by rw [la.length, lb.length, ← lim_eq]; exact hl, ?_⟩
          have hx : Ext al H al (L2.upd H pa (.lst (ys ++ vb))) := ext_set s e0 e1
          exact p al _ _ hx (s.set e0 ⟨_, L2.upd_same, (la.mono hx).append (lb.mono hx)⟩) .non
        · exact p.elim
      · exact p.elim
    | _ => exact (show False from p).elim
  · cases o <;> exact (show False from p).elim
theorem ms_pop : MetS X G "list" L2.rPop .pop := by
  refine ⟨ty_list (.inr (.inr rfl)), fun al H h o ws v vs Q s r rl p => ?_⟩
  rcases ws with _ | ⟨w, rest⟩
  · cases rl
    cases r with
    | @ref pa n e0 =>
      simp only [wBm] at p
      split at p
      · rename_i xs eh
        split at p
        · rename_i w ew
          obtain ⟨ys, e1, la⟩ := s.obj _ _ _ e0 eh
          rw [List.getLast?_eq_getElem?] at ew
          obtain ⟨u, e2, ru⟩ := la.get ew
          refine ⟨pa, ys, u, rfl, rfl, e1, by rw [la.length]; exact e2, ?_⟩
          have hx : Ext al H al (L2.upd H pa (.lst ys.dropLast)) := ext_set s e0 e1
          exact p al _ _ hx (s.set e0 ⟨_, L2.upd_same, (la.mono hx).dropLast⟩) (ru.mono hx)
        · exact p.elim
      · exact p.elim
    | _ => exact (show False from p).elim
  · cases o <;> exact (show False from p).elim
theorem str_ty {m : Bm} (hm : ∀ h o, bmOk m h o = true → ∃ s, o = .str s) : ∀ al H h o v, HSim X.K G al H h → Rep X.K H al v o → bmOk m h o = true → L2.tyV X.K "str" v H := fun al H h o v s r e => by
  obtain ⟨t, rfl⟩ := hm h o e
  cases r
  rfl
theorem ends_eq (s t : String) : PySem.Txt.endswith (S s) (S t) = (decide (t.toList.length ≤ s.toList.length) && (s.toList.drop (s.toList.length - t.toList.length) == t.toList)) := by
  unfold PySem.Txt.endswith PySem.Builtin.Str.subAt
  have l1 : (S s).length = s.toList.length := by rw [S_len, String.length_toList]
  have l2 : (S t).length = t.toList.length := by rw [S_len, String.length_toList]
  rw [l1, l2, Nat.zero_add]
  by_cases hl : t.toList.length ≤ s.toList.length
  · rw [decide_eq_true hl, Bool.true_and, Bool.true_and]
    have e : s.toList.length - t.toList.length + t.toList.length = s.toList.length := by omega
    rw [e, S_cps, S_cps]
    have e2 : (s.toList.map Char.toNat).toArray.extract (s.toList.length - t.toList.length) s.toList.length = ((s.toList.drop (s.toList.length - t.toList.length)).map Char.toNat).toArray := by
      apply Array.ext'
      simp only [Array.toList_extract, List.extract_eq_take_drop, List.map_drop]
      exact List.take_of_length_le (by simp)
    rw [e2]
    have inj : ∀ a b : List Char, a.map Char.toNat = b.map Char.toNat → a = b := by
      intro a
      induction a with
      | nil => intro b e; cases b with
        | nil => rfl
        | cons => simp at e
      | cons x xs ih => intro b e; cases b with
        | nil => simp at e
        | cons y ys =>
          simp only [List.map_cons, List.cons.injEq] at e
          rw [ih ys e.2, Char.toNat_inj.mp e.1]
    by_cases h : s.toList.drop (s.toList.length - t.toList.length) = t.toList
    · rw [h]; simp
    · rw [beq_eq_false_iff_ne.mpr h, beq_eq_false_iff_ne.mpr]
      intro z
      exact h (inj _ _ (by simpa using z))
  · rw [decide_eq_false hl, Bool.false_and, Bool.false_and]
theorem ms_endswith : MetS X G "str" (fun x xs H Q => ∃ a b, x = .str a ∧ xs = [.str b] ∧ Q (.bl (PySem.Txt.endswith a b)) H) .endswith := by
  refine ⟨str_ty fun h o e => ?_, fun al H h o ws v vs Q s r rl p => ?_⟩
  · cases o <;> first | exact ⟨_, rfl⟩ | cases e
  · rcases ws with _ | ⟨w, _ | ⟨w2, rest⟩⟩
    · cases o <;> exact (show False from p).elim
    · obtain ⟨u, rfl, rv⟩ := rl.one
      cases r <;> cases rv <;> first | exact (show False from p).elim | skip
      refine ⟨_, _, rfl, rfl, ?_⟩
      rw [ends_eq]
      exact p al H _ .refl s (.bl _)
    · cases o <;> cases w <;> exact (show False from p).elim
theorem dget_val {K : Frag} {H : Hp} {al : AL} {ys : List (L2.Key × HV)} {kvs : List (Key × W)} (rd : RepD K H al ys kvs) (q : Key) {v : HV} {w : W} (r : Rep K H al v w) : Rep K H al ((L2.valV ys (keyS q)).getD v) ((dGet q kvs).getD w) := by
  have hv := rd.val q
  cases e : dGet q kvs with
  | none => rw [e] at hv; rw [hv]; exact r
  | some z =>
    rw [e] at hv
    obtain ⟨u, e1, ru⟩ := hv
    rw [e1]; exact ru
theorem isD_of {al : AL} {H : Hp} {h : MH} {o : W} {v : HV} {m : Bm} (hm : m = .get ∨ m = .get2 ∨ m = .dpop) (s : HSim X.K G al H h) (r : Rep X.K H al v o) (e : bmOk m h o = true) : ∃ a n, v = .ref a ∧ o = .ref n ∧ al[n]? = some a ∧ L2.IsD H a := by
  cases r with
  | @ref pa n e0 =>
    have : ∃ xs, h[n]? = some (.dic xs) := by
      rcases hm with rfl | rfl | rfl <;>
      · simp only [bmOk] at e
        split at e
        · rename_i xs eh; exact ⟨xs, eh⟩
        · cases e
    obtain ⟨xs, eh⟩ := this
    obtain ⟨ys, e1, _⟩ := s.obj _ _ _ e0 eh
    exact ⟨pa, n, rfl, rfl, e0, .inl ⟨ys, .inl e1⟩⟩
  | _ => rcases hm with rfl | rfl | rfl <;> cases e
theorem m1_of {nm : PySem.Str} (f : McF X e1 nm apos [e2] pos) : L2.M1 X e1 nm apos e2 pos := ⟨f.base, f.few, f.line, by rw [f.trees]; rfl⟩
theorem m2_of {nm : PySem.Str} (f : McF X e1 nm apos [e2, e3] pos) : L2.M2 X e1 nm apos e2 e3 pos := ⟨f.base, f.few, f.line, by rw [f.trees]; rfl⟩
theorem se_get (hu : X.A.units + 200 < PySem.cLine) (h1 : SE X G k.xc e1 (ev T k x1)) (h2 : SE X G k.xc e2 (ev T k x2)) (f : McF X e1 "get" apos [e2] pos) : SE X G k.xc (.Call (.Attribute e1 "get" apos) [e2] [] pos) (ev T k (.bm .get x1 (.cons x2 .nil))) := fun W' tk => by
  refine pe_imp (L2.pe_dget1 (by omega) (h1 W' tk) (h2 W' tk) (m1_of f)) fun σ H Q q => ?_
  obtain ⟨al, ρ, h, a, p⟩ := rd_at q
  simp only [ev] at p
  split at p
  case isFalse => exact p.elim
  refine rd_bind a p fun al1 H1 w1 h1 v1 y1 a1 r1 p1 => ?_
  split at p1
  case isFalse => exact p1.elim
  rename_i hok
  obtain ⟨pa, n, rfl, rfl, e0, hd⟩ := isD_of (.inl rfl) a1.hs r1 hok
  refine ⟨pa, rfl, hd, ?_⟩
  simp only [evs, Res.bind_assoc, Res.bind_ok] at p1
  refine rd_bind a1 p1 fun al2 H2 w2 h2 v2 y2 a2 r2 p2 => ?_
  simp only [wBm] at p2
  split at p2
  · rename_i kvs q eh ek
    obtain ⟨ys, e3, rd⟩ := RepD.dget a2.hs (y2.get e0) eh
    have := keyOf_rep r2 ek
    subst this
    exact ⟨_, L2.DGet.k e3, p2 al2 H2 .refl a2.hs _ (dget_val rd q .non)⟩
  · exact p2.elim
theorem se_get2 (hu : X.A.units + 200 < PySem.cLine) (h1 : SE X G k.xc e1 (ev T k x1)) (h2 : SE X G k.xc e2 (ev T k x2)) (h3 : SE X G k.xc e3 (ev T k x3)) (f : McF X e1 "get" apos [e2, e3] pos) : SE X G k.xc (.Call (.Attribute e1 "get" apos) [e2, e3] [] pos) (ev T k (.bm .get2 x1 (.cons x2 (.cons x3 .nil)))) := fun W' tk => by
  refine pe_imp (L2.pe_dget2 (by omega) (h1 W' tk) (h2 W' tk) (h3 W' tk) (m2_of f)) fun σ H Q q => ?_
  obtain ⟨al, ρ, h, a, p⟩ := rd_at q
  simp only [ev] at p
  split at p
  case isFalse => exact p.elim
  refine rd_bind a p fun al1 H1 w1 h1 v1 y1 a1 r1 p1 => ?_
  split at p1
  case isFalse => exact p1.elim
  rename_i hok
  obtain ⟨pa, n, rfl, rfl, e0, hd⟩ := isD_of (.inr (.inl rfl)) a1.hs r1 hok
  refine ⟨pa, rfl, hd, ?_⟩
  simp only [evs, Res.bind_assoc, Res.bind_ok] at p1
  refine rd_bind a1 p1 fun al2 H2 w2 h2 v2 y2 a2 r2 p2 => ?_
  refine rd_bind a2 p2 fun al3 H3 w3 h3 v3 y3 a3 r3 p3 => ?_
  simp only [wBm] at p3
  split at p3
  · rename_i kvs q eh ek
    obtain ⟨ys, e3, rd⟩ := RepD.dget a3.hs (y3.get (y2.get e0)) eh
    have := keyOf_rep r2 ek
    subst this
    exact ⟨_, L2.DGet.k e3, p3 al3 H3 .refl a3.hs _ (dget_val rd q r3)⟩
  · exact p3.elim
theorem se_dpop (h1 : SE X G k.xc e1 (ev T k x1)) (h2 : SE X G k.xc e2 (ev T k x2)) (h3 : SE X G k.xc e3 (ev T k x3)) (f : McF X e1 "pop" apos [e2, e3] pos) : SE X G k.xc (.Call (.Attribute e1 "pop" apos) [e2, e3] [] pos) (ev T k (.bm .dpop x1 (.cons x2 (.cons x3 .nil)))) := fun W' tk => by
  refine pe_imp (L2.pe_dpop2 (h1 W' tk) (h2 W' tk) (h3 W' tk) (m2_of f)) fun σ H Q q => ?_
  obtain ⟨al, ρ, h, a, p⟩ := rd_at q
  simp only [ev] at p
  split at p
  case isFalse => exact p.elim
  refine rd_bind a p fun al1 H1 w1 h1 v1 y1 a1 r1 p1 => ?_
  split at p1
  case isFalse => exact p1.elim
  rename_i hok
  obtain ⟨pa, n, rfl, rfl, e0, hd⟩ := isD_of (.inr (.inr rfl)) a1.hs r1 hok
  refine ⟨pa, rfl, hd, ?_⟩
  simp only [evs, Res.bind_assoc, Res.bind_ok] at p1
  refine rd_bind a1 p1 fun al2 H2 w2 h2 v2 y2 a2 r2 p2 => ?_
  refine rd_bind a2 p2 fun al3 H3 w3 h3 v3 y3 a3 r3 p3 => ?_
  simp only [wBm] at p3
  split at p3
  · rename_i kvs q eh ek
    have e0' := y3.get (y2.get e0)
    obtain ⟨ys, e3, rd⟩ := RepD.dget a3.hs e0' eh
    have := keyOf_rep r2 ek
    subst this
    have hv := rd.val q
    refine ⟨ys, keyS q, e3, rfl, fun v ev => ?_, fun ev => ?_⟩
    · cases e : dGet q kvs with
      | none => rw [e] at hv; rw [hv] at ev; cases ev
      | some z =>
        rw [e] at hv p3
        obtain ⟨u, e1, ru⟩ := hv
        rw [e1] at ev; cases ev
        have hx : Ext al3 H3 al3 (L2.upd H3 pa (.dK (L2.dropK ys (keyS q)))) := ext_set a3.hs e0' e3
        exact p3 al3 _ hx (a3.hs.set e0' ⟨_, L2.upd_same, (rd.mono hx).drop q⟩) _ (ru.mono hx)
    · cases e : dGet q kvs with
      | none => rw [e] at p3; exact p3 al3 H3 .refl a3.hs _ r3
      | some z =>
        rw [e] at hv
        obtain ⟨u, e1, ru⟩ := hv
        rw [e1] at ev; cases ev
  · exact p3.elim
end
end Py

namespace Py
open PySem (Addr Value Obj Expr Pos)
inductive Kn where
  | non | bool | int | str | tuple | list | dict
def Kn.nm : Kn → String
  | .non => "NoneType" | .bool => "bool" | .int => "int" | .str => "str" | .tuple => "tuple" | .list => "list" | .dict => "dict"
def Kn.is : Kn → Ty → Bool
  | .non, _ => false
  | .bool, t => decide (t = .bool) || decide (t = .int)
  | .int, t => decide (t = .int)
  | .str, t => decide (t = .str)
  | .tuple, t => decide (t = .tuple)
  | .list, t => decide (t = .list)
  | .dict, t => decide (t = .dict)
theorem kit_kn {K : Frag} (a : Kn) (t : Ty) : PySem.W.kitOne K (.type a.nm) (.type (tyN t)) = some (a.is t) := by
  cases a <;> cases t <;> exact L2.kit_ty (by decide +kernel)
section
variable {X : L2.Cx} {G : Gt} {T : Tb} {al : AL} {H : Hp} {h : MH}
/-- a value's class, and isinstance's answers -/
theorem ty_of (F : ClsF X.K G T) (s : HSim X.K G al H h) {v : HV} {w : W} (r : Rep X.K H al v w) {t0 : Ty} {b0 : Bool} (e0 : isTy h w t0 = some b0) :
    ∃ tv : Value, L2.TyX X.K H v tv ∧ ∀ t b, isTy h w t = some b → PySem.W.kitOne X.K tv (.type (tyN t)) = some b := by
  cases r with
  | non => exact ⟨_, .base .non, fun t b e => by cases e; exact kit_kn .non t⟩
  | bl c => exact ⟨_, .base (.bl c), fun t b e => by cases e; exact kit_kn .bool t⟩
  | int i => exact ⟨_, .base (.int i), fun t b e => by cases e; exact kit_kn .int t⟩
  | str i => exact ⟨_, .base (.str _), fun t b e => by cases e; exact kit_kn .str t⟩
  | tup sa la =>
    rcases sa with ⟨q | ⟨o, q⟩, _⟩ | ⟨o, its, n, q, c, _⟩
    · exact ⟨_, .base (.tup q), fun t b e => by cases e; exact kit_kn .tuple t⟩
    · exact ⟨_, .fTuple q, fun t b e => by cases e; exact kit_kn .tuple t⟩
    · exact ⟨_, .kTuple q c, fun t b e => by cases e; exact kit_kn .tuple t⟩
  | lst sa la => exact ⟨_, .base (.lst sa.1), fun t b e => by cases e; exact kit_kn .list t⟩
  | scr sa =>
    have sa := sa.sq
    rcases sa with (q | ⟨o, q⟩) | ⟨o, its, n, q, c, _⟩
    · exact ⟨_, .base (.lst q), fun t b e => by cases e; exact kit_kn .list t⟩
    · exact ⟨_, .base (.frz q), fun t b e => by cases e; exact kit_kn .list t⟩
    · exact ⟨_, .kList q c, fun t b e => by cases e; exact kit_kn .list t⟩
  | @ref a n q =>
    cases eh : h[n]? with
    | none => simp [isTy, eh] at e0
    | some o =>
      have ob := s.obj _ _ _ q eh
      cases o with
      | lst ws =>
        obtain ⟨vs, e1, _⟩ := ob
        exact ⟨_, .base (.lst e1), fun t b e => by simp only [isTy, eh] at e; cases e; exact kit_kn .list t⟩
      | dic ws =>
        obtain ⟨vs, e1, _⟩ := ob
        exact ⟨_, .base (.dK e1), fun t b e => by simp only [isTy, eh] at e; cases e; exact kit_kn .dict t⟩
      | fdic _ => simp [isTy, eh] at e0
      | ins c fs =>
        obtain ⟨C, dx, gs, e1, e2, _⟩ := ob
        obtain ⟨c1, c2, c3, c4⟩ := F.ca c C e1
        exact ⟨_, .base (.ins e2 (F.cls c C e1) c1 c2 c3 c4), fun t b e => by simp only [isTy, eh] at e; cases e; exact F.kit c C t e1⟩
theorem tys_of {v : HV} {w : W} {tv : Value} (hk : ∀ t b, isTy h w t = some b → PySem.W.kitOne X.K tv (.type (tyN t)) = some b) : ∀ (ts : List Ty) (b : Bool), isTys h w ts = some b → PySem.W.kitAny X.K tv (ts.map fun t => .type (tyN t)) = some b
  | [], b, e => by cases e; exact L2.kitAny_nil
  | t :: ts, b, e => by
    simp only [isTys] at e
    split at e
    · rename_i e1
      cases e
      exact L2.kitAny_cons (hk t _ e1) (fun z => by cases z) fun _ => rfl
    · rename_i e1
      exact L2.kitAny_cons (hk t _ e1) (fun _ => tys_of (v := v) hk ts b e) fun z => by cases z
    · cases e
end
section
variable {X : L2.Cx} {G : Gt} {T : Tb} {k : Cxt} {pos p0 p1 : Pos} {e1 : Expr} {x1 : Ex}
/-- the name of a built-in type -/
structure TyNm (X : L2.Cx) (x : PySem.Str) (t : Ty) : Prop where
  g : L2.Gl X x
  m : X.mg x = none
  v : PySem.bootBuiltins x = some (.type (tyN t))
  n : x ≠ "__name__"
  d : (x == ("__debug__" : PySem.Str)) = false
theorem TyNm.pe {x : PySem.Str} {t : Ty} (h : TyNm X x t) : L2.PE X (.Name x pos) (L2.tC (.ty (tyN t))) := L2.pe_bltn h.g h.m h.v rfl h.n h.d
theorem star2 {env : PySem.Env} {x : PySem.Str} {p : Pos} {e : Expr} (h : PySem.starEach [e] env = [(false, PySem.eval e env)]) : PySem.starEach (e :: [.Name x p]) env = (false, PySem.eval e env) :: PySem.starEach [.Name x p] env := by
  cases e <;> simp [PySem.starEach] at h ⊢
theorem star2t {env : PySem.Env} {es : List Expr} {j : Nat} {p : Pos} {e : Expr} (h : PySem.starEach [e] env = [(false, PySem.eval e env)]) : PySem.starEach (e :: [.Tuple es j p]) env = (false, PySem.eval e env) :: PySem.starEach [.Tuple es j p] env := by
  cases e <;> simp [PySem.starEach] at h ⊢
theorem se_isa {x : PySem.Str} {t : Ty} (F : ClsF X.K G T) (hcalm : X.calm = k.calm) (hg : L2.Gl X "isinstance") (hm : X.mg "isinstance" = none) (ht : TyNm X x t) (h1 : SE X G k.xc e1 (ev T k x1)) (hs : PySem.starEach [e1] X.env = [(false, PySem.eval e1 X.env)]) :
    SE X G k.xc (.Call (.Name "isinstance" p0) [e1, .Name x p1] [] pos) (ev T k (.bi (.isa [t]) (.cons x1 .nil))) := fun W' tk => by
  refine pe_imp (L2.pe_callB L2.call_isi hg hm (by decide +kernel) (L2.pa_cons (h1 W' tk) (L2.pa_cons ht.pe L2.pa_nil) (star2 hs)) (he := star2 hs)) fun σ H Q q => ?_
  obtain ⟨al, ρ, h, a, p⟩ := rd_at q
  simp only [ev] at p
  split at p
  case isFalse => exact p.elim
  simp only [evs, Res.bind_assoc, Res.bind_ok] at p
  refine rd_bind a p fun al1 H1 w1 h1 v1 y1 a1 r1 p1 => ?_
  simp only [wBi, isTys] at p1
  cases e : isTy h1 w1 t with
  | none => simp only [e, Option.map_none, lift_none] at p1; exact p1.elim
  | some b =>
    obtain ⟨tv, ty, hk⟩ := ty_of F a1.hs r1 e
    refine ⟨v1, .ty (tyN t), tv, _, b, rfl, .ty _, ty, hk t b e, ?_⟩
    cases b <;> (simp only [e, Option.map_some, lift_some] at p1; exact p1 al1 H1 .refl a1.hs _ (.bl _))
/-- several names of built-in types -/
inductive TyNms (X : L2.Cx) : List Expr → List Ty → Prop
  | nil : TyNms X [] []
  | cons {x : PySem.Str} {t : Ty} {p : Pos} {es : List Expr} {ts : List Ty} : TyNm X x t → TyNms X es ts → TyNms X (.Name x p :: es) (t :: ts)
theorem TyNms.pa : ∀ {es : List Expr} {ts : List Ty}, TyNms X es ts → L2.PA X es (fun σ H Q => Q (ts.map fun t => L2.V.ty (tyN t)) H)
  | _, _, .nil => L2.pa_nil
  | _, _, .cons h t => pa_imp (L2.pa_cons h.pe (TyNms.pa t) (by simp [PySem.starEach])) fun σ H Q q => q
theorem cls_all (ts : List Ty) : PySem.Paired L2.ClsV (ts.map fun t => L2.V.ty (tyN t)) (ts.map fun t => .type (tyN t)) := by
  induction ts with
  | nil => exact .nil
  | cons t ts ih => exact .cons (.ty _) ih
theorem se_isaT {es : List Expr} {ts : List Ty} {j : Nat} (F : ClsF X.K G T) (hcalm : X.calm = k.calm) (hg : L2.Gl X "isinstance") (hm : X.mg "isinstance" = none) (ht : TyNms X es ts) (hne : ts ≠ []) (hl : ts.length ≤ 1000) (h1 : SE X G k.xc e1 (ev T k x1)) (hs : PySem.starEach [e1] X.env = [(false, PySem.eval e1 X.env)]) :
    SE X G k.xc (.Call (.Name "isinstance" p0) [e1, .Tuple es j p1] [] pos) (ev T k (.bi (.isa ts) (.cons x1 .nil))) := fun W' tk => by
  refine pe_imp (L2.pe_callB L2.call_isiT hg hm (by decide +kernel) (L2.pa_cons (h1 W' tk) (L2.pa_cons (L2.pe_tup ht.pa) L2.pa_nil) (star2t hs)) (he := star2t hs)) fun σ H Q q => ?_
  obtain ⟨al, ρ, h, a, p⟩ := rd_at q
  simp only [ev] at p
  split at p
  case isFalse => exact p.elim
  simp only [evs, Res.bind_assoc, Res.bind_ok] at p
  refine rd_bind a p fun al1 H1 w1 h1 v1 y1 a1 r1 p1 => ?_
  refine ⟨by rw [List.length_map, PySem.sizeLine_eq]; omega, fun pp hp => ?_⟩
  simp only [wBi] at p1
  cases e : isTys h1 w1 ts with
  | none => simp only [e, Option.map_none, lift_none] at p1; exact p1.elim
  | some b =>
    simp only [e, Option.map_some, lift_some] at p1
    have hx := ext_new (o := .tup (ts.map fun t => L2.V.ty (tyN t))) a1.hs hp
    have s2 := a1.hs.new (o := .tup (ts.map fun t => L2.V.ty (tyN t))) hp
    have e0 : ∃ t0 b0, isTy h1 w1 t0 = some b0 := by
      cases ts with
      | nil => exact absurd rfl hne
      | cons t ts =>
        simp only [isTys] at e
        cases e1 : isTy h1 w1 t with
        | none => rw [e1] at e; cases e
        | some b1 => exact ⟨t, b1, e1⟩
    obtain ⟨t0, b0, e0⟩ := e0
    obtain ⟨tv, ty, hk⟩ := ty_of F s2 (r1.mono hx) e0
    exact ⟨v1, pp, _, tv, _, b, rfl, L2.upd_same, cls_all ts, ty, tys_of (v := v1) hk ts b e, p1 al1 _ hx s2 _ (.bl _)⟩
end
/-- what a def promises: the evaluator's answer -/
def spF (K : Frag) (G : Gt) (g : List W → MH → Res W) (m : Nat) : L2.Sp := fun vs H Q E => vs.length = m ∧ ∃ al h ws, HSim K G al H h ∧ RepL K H al vs ws ∧ match g ws h with
  | .ok w h' => ∀ al' H' v, Ext al H al' H' → HSim K G al' H' h' → Rep K H' al' v w → Q v H'
  | .exc c fs h' => ∀ al' H' cls d, Ext al H al' H' → HSim K G al' H' h' → XRep K G H' al' cls d c fs → E cls d H'
  | .bad => False
theorem spF_of {X : L2.Cx} {G : Gt} {W' : WX} {σ : L2.St} {H : Hp} {al : AL} {h : MH} {g : List W → MH → Res W} {m : Nat} {vs : List HV} {ws : List W} {Q : HV → Hp → Prop} (hm : vs.length = m) (s : HSim X.K G al H h) (r : RepL X.K H al vs ws)
    (p : PostE X.K G W' σ al H (g ws h) fun al' H' w _ => ∀ v, Rep X.K H' al' v w → Q v H') : spF X.K G g m vs H Q (L2.WE W' σ) := by
  refine ⟨hm, al, h, ws, s, r, ?_⟩
  cases e : g ws h with
  | ok w h' => rw [e] at p; exact fun al' H' v x s rv => p al' H' x s v rv
  | exc c fs h' => rw [e] at p; exact p
  | bad => rw [e] at p; exact p
/-- a def of the program, as it stands: its address, the promise -/
structure CallF (X : L2.Cx) (G : Gt) (n : Nat) (g : List W → MH → Res W) (m : Nat) (a : Addr) (fd : PySem.FuncData) (ps : List PySem.Str) : Prop where
  len : ps.length = m
  bnd : L2.Binds X.K fd ps []
  ok : L2.FnOk X.prog X.w X.K X.mg X.base (L2N.CX X.prog X.w) n a fd ps (spF X.K G g m)
section
open PySem PySem.Spec PyProof.Rows
variable {X : L2.Cx} {CX : L2.CXT} {kk : Nat} {f C : Addr} {fd : FuncData} {ps : List Str} {sp : L2.Sp} {E : L2.St → L2.XK} {x m : Str} {p pos apos : Pos} {e o : Expr} {es : List Expr} {ta : L2.TE} {t : L2.TA}
theorem pe_call0S (F : L2.FnOk X.prog X.w X.K X.mg X.base CX kk f fd ps sp) (hr : L2.Room kk X.A) (hg : L2.Gl X x) (hm : X.mg x = some (.ref f)) (hk : PySem.W.keepIn X.K (.ref f) = true) (hb : L2.Binds X.K fd ps []) (hx : ∀ σ, L2.PassesAt CX X σ (E σ))
    (hdb : (x == ("__debug__" : Str)) = false) : L2.PE X (.Call (.Name x p) [] [] pos) (L2.tCallS sp E L2.tNil) := by
  refine ⟨fun pins s σ H Q I h => ?_⟩
  refine wpAny_Call_Name_kw (L2.ld_glob I hg hm ?_ hdb)
  exact PySem.W.callWith_K0 I.kIn hk (L2.run_fnS (us := []) F hr hb (hx σ) I .nil h)
/-- o.m(e, ..), the class met when it runs -/
def tMethD (X : L2.Cx) (CX : L2.CXT) (kk : Nat) (m : Str) (E : L2.St → L2.XK) (ta : L2.TE) (t : L2.TA) : L2.TE := fun σ H Q => ta σ H fun x H1 => ∃ a C dx fs f fd ps sp, x = L2.V.ref a ∧ H1 a = some (.ins C dx fs) ∧ L2.Cls X.K C ∧ L2.Meth X.K C m f ∧
  L2.FnOk X.prog X.w X.K X.mg X.base CX kk f fd ps sp ∧ L2.Binds X.K fd ps [] ∧ fs.lookup m = none ∧ t σ H1 fun vs H2 => sp (x :: vs) H2 Q (E σ)
theorem pe_methD {pl : Sem Bool} (he : L2.PE X o ta) (hr : L2.Room kk X.A) (hx : ∀ σ, L2.PassesAt CX X σ (E σ)) (ha : L2.PA X (e :: es) t)
    (hst : starEach (e :: es) X.env = (false, eval e X.env) :: starEach es X.env) (hpl : (backTo pos (starEach es X.env)).any (·.1) = false)
    (ht : eval (.Call (.Attribute o m apos) (e :: es) [] pos) X.env = (do
      let ov ← eval o X.env
      standAt apos.atName
      let (f, first) ← holding [ov] (getMethod ov m pl)
      callWith pos f first (backTo pos (starEach (e :: es) X.env)) (backToKw pos (keywordEach [] X.env)))) :
    L2.PE X (.Call (.Attribute o m apos) (e :: es) [] pos) (tMethD X CX kk m E ta t) := by
  refine ⟨fun pins s σ H Q I h => ?_⟩
  refine PySem.W.methodCall_KW (pl := pl) (L2.thn (he.run pins s σ H _ I h) fun u s1 ⟨x, H1, I1, rx, a, C, dx, fs, f, fd, ps, sp, ex, ea, c, hm, F, hb, l, q⟩ => ?_) ht
  subst ex
  obtain rfl : u = Value.ref a := rx
  refine L2.getmeth_ok I1 ea c hm l ?_
  refine PySem.W.callWith_K (first := [.ref a]) (h₀ := X.base) I.ok.mod.kin hm.kp (L2.thn (ha.run pos pins s1 σ H1 _ I1 q) fun us s2 ⟨vs, H2, I2, r, q2⟩ => ⟨I2.kIn, ?_⟩) hst hpl
  exact L2.run_fnS (us := .ref a :: us) (vs := .ref a :: vs) F hr hb (hx σ) I2 (.cons rfl r) q2
theorem pe_methD0 {pl : Sem Bool} (he : L2.PE X o ta) (hr : L2.Room kk X.A) (hx : ∀ σ, L2.PassesAt CX X σ (E σ))
    (ht : eval (.Call (.Attribute o m apos) [] [] pos) X.env = (do
      let ov ← eval o X.env
      standAt apos.atName
      let (f, first) ← holding [ov] (getMethod ov m pl)
      callWith pos f first (backTo pos (starEach [] X.env)) (backToKw pos (keywordEach [] X.env)))) :
    L2.PE X (.Call (.Attribute o m apos) [] [] pos) (tMethD X CX kk m E ta L2.tNil) := by
  refine ⟨fun pins s σ H Q I h => ?_⟩
  refine PySem.W.methodCall_KW (pl := pl) (L2.thn (he.run pins s σ H _ I h) fun u s1 ⟨x, H1, I1, rx, a, C, dx, fs, f, fd, ps, sp, ex, ea, c, hm, F, hb, l, q⟩ => ?_) ht
  subst ex
  obtain rfl : u = Value.ref a := rx
  refine L2.getmeth_ok I1 ea c hm l ?_
  exact PySem.W.callWith_K0 (first := [.ref a]) I1.kIn hm.kp (L2.run_fnS (us := [.ref a]) (vs := [.ref a]) F hr hb (hx σ) I1 (.cons rfl .nil) q)
/-- C(..) -/
def tMakeS (C : Addr) (sp : L2.Sp) (E : L2.St → L2.XK) (t : L2.TA) : L2.TE := fun σ H Q => t σ H fun vs H1 => ∀ x dx, H1 x = none → H1 dx = none → dx ≠ x →
  sp (L2.V.ref x :: vs) (L2.upd (L2.upd H1 dx (.own x)) x (.ins C dx [])) (fun v H2 => v = .non ∧ Q (.ref x) H2) (E σ)
theorem run_makeS {pins : List (Addr × Obj)} {σ : L2.St} {H : L2.Hp} {s : Shared} {Q : L2.VK} {us : List Value} {vs : List L2.V} (M : L2.Mk X.K C f) (F : L2.FnOk X.prog X.w X.K X.mg X.base CX kk f fd ps sp) (hr : L2.Room (kk + 1) X.A) (hb : L2.Binds X.K fd ps [])
    (hx : L2.PassesAt CX X σ (E σ)) (I : L2.Inv X pins σ H s) (r : L2.Vals vs us)
    (h : ∀ x dx, H x = none → H dx = none → dx ≠ x → sp (L2.V.ref x :: vs) (L2.upd (L2.upd H dx (.own x)) x (.ins C dx [])) (fun v H2 => v = .non ∧ Q (.ref x) H2) (E σ)) :
    wpAny (model X.prog X.w) X.A (PySem.call (Value.ref C) us) (L2.EP X pins σ Q) X.xe s := by
  have hq := h (s.heap.objs.size + 1) s.heap.objs.size (I.hok.fresh (Nat.le_succ _)) (I.hok.fresh (Nat.le_refl _)) (Nat.ne_of_lt (Nat.lt_succ_self _))
  have I2 := L2.Inv.made (C := C) I
  have r2 : L2.Vals (L2.V.ref (s.heap.objs.size + 1) :: vs) (Value.ref (s.heap.objs.size + 1) :: us) := .cons rfl r
  have hl : (Value.ref (s.heap.objs.size + 1) :: us).length = ps.length := by
    have e := r2.length
    rw [F.len _ _ _ _ hq] at e
    exact e.symm
  have b := hb _ (Value.ref (s.heap.objs.size + 1) :: us) I2.kIn (by rw [List.append_nil]; exact hl)
  rw [List.append_nil] at b
  refine wpAny_call (L2.make_map (f := f) I.kIn M.makes M.init (beq_iff_eq.mp M.fn) (codeAny_mono (F.run _ X.stack _ _ ⟨Value.ref (s.heap.objs.size + 1) :: us, []⟩ (Value.ref (s.heap.objs.size + 1) :: us) _ _ (E σ) (hr.make C us [])
    (I2.env0.make C us []) b r2 hq) fun r s' hq' => ?_))
  cases r with
  | error e => exact hx pins _ _ e s' I2 hq'
  | ok fl =>
    cases fl with
    | ret u =>
      obtain ⟨v, H', I3, rv, ev, q3⟩ := I2.after hq'
      subst ev
      exact ⟨rv, ⟨L2.V.ref (s.heap.objs.size + 1), H', I3, rfl, q3⟩⟩
    | next => exact False.elim hq'
    | brk => exact False.elim hq'
    | cont => exact False.elim hq'
theorem pe_makeS (M : L2.Mk X.K C f) (F : L2.FnOk X.prog X.w X.K X.mg X.base CX kk f fd ps sp) (hr : L2.Room (kk + 1) X.A) (hg : L2.Gl X x) (hm : X.mg x = some (.ref C)) (hb : L2.Binds X.K fd ps []) (hx : ∀ σ, L2.PassesAt CX X σ (E σ))
    (ha : L2.PA X (e :: es) t) (hdb : (x == ("__debug__" : Str)) = false) (he : starEach (e :: es) X.env = (false, eval e X.env) :: starEach es X.env) (hpl : (backTo pos (starEach es X.env)).any (·.1) = false) :
    L2.PE X (.Call (.Name x p) (e :: es) [] pos) (tMakeS C sp E t) := by
  refine ⟨fun pins s σ H Q I h => ?_⟩
  refine wpAny_Call_Name_kw (L2.ld_glob I hg hm ?_ hdb)
  refine PySem.W.callWith_K (h₀ := X.base) I.ok.mod.kin M.kp (L2.thn (ha.run pos pins s σ H _ I h) fun us s1 ⟨vs, H1, I1, r, q⟩ => ⟨I1.kIn, ?_⟩) he hpl
  exact run_makeS M F hr hb (hx σ) I1 r q
theorem pe_make0S (M : L2.Mk X.K C f) (F : L2.FnOk X.prog X.w X.K X.mg X.base CX kk f fd ps sp) (hr : L2.Room (kk + 1) X.A) (hg : L2.Gl X x) (hm : X.mg x = some (.ref C)) (hb : L2.Binds X.K fd ps []) (hx : ∀ σ, L2.PassesAt CX X σ (E σ))
    (hdb : (x == ("__debug__" : Str)) = false) : L2.PE X (.Call (.Name x p) [] [] pos) (tMakeS C sp E L2.tNil) := by
  refine ⟨fun pins s σ H Q I h => ?_⟩
  refine wpAny_Call_Name_kw (L2.ld_glob I hg hm ?_ hdb)
  exact PySem.W.callWith_K0 I.kIn M.kp (run_makeS (us := []) M F hr hb (hx σ) I .nil h)
end
section
variable {X : L2.Cx} {G : Gt} {T : Tb} {k : Cxt} {pos p0 apos : Pos} {e e1 : Expr} {es : List Expr} {as x1 : Ex} {x nm : PySem.Str} {n : Nat}
theorem se_call {f m : Nat} {a : Addr} {fd : PySem.FuncData} {ps : List PySem.Str} (hr : k.calm = true → L2.Room n X.A) (F : CallF X G n (k.C f) m a fd ps) (hg : L2.Gl X x) (hm : X.mg x = some (.ref a)) (hk : PySem.W.keepIn X.K (.ref a) = true) (hdb : (x == ("__debug__" : PySem.Str)) = false)
    (ha : SA X G k.xc (e :: es) (evs T k as)) (hl : (e :: es).length = m) (hlen : ∀ ρ h ws h', evs T k as ρ h = .ok ws h' → ws.length = m) (hs : PySem.starEach (e :: es) X.env = (e :: es).map fun e => (false, PySem.eval e X.env)) : SE X G k.xc (.Call (.Name x p0) (e :: es) [] pos) (ev T k (.call f as)) := fun W' tk => by
  cases hc : k.calm with
  | false => exact pe_no fun σ H Q q => by obtain ⟨al, ρ, h, a, p⟩ := rd_at q; simp [ev, hc, PostE] at p
  | true =>
    refine pe_imp (L2.pe_callS F.ok (hr hc) hg hm hk F.bnd (L2N.passAt tk) (ha W' tk) hdb (trees_head hs) (trees_any (trees_tail hs))) fun σ H Q q => ?_
    obtain ⟨al, ρ, h, a, p⟩ := rd_at q
    simp only [ev, hc, if_true] at p
    cases ee : evs T k as ρ h with
    | bad => rw [ee] at p; exact p.elim
    | exc c fs h' =>
      rw [ee] at p
      exact rd_ofA a (by rw [ee]; exact p)
    | ok ws h' =>
      have hl := hlen _ _ _ _ ee
      rw [ee] at p
      refine rd_ofA a ?_
      rw [ee]
      intro al1 H1 x1 s1 vs r1
      exact spF_of (by rw [r1.length]; exact hl) s1 r1 (PostE.ext x1 p)
theorem se_call0 {f : Nat} {a : Addr} {fd : PySem.FuncData} {ps : List PySem.Str} (hr : k.calm = true → L2.Room n X.A) (F : CallF X G n (k.C f) 0 a fd ps) (hg : L2.Gl X x) (hm : X.mg x = some (.ref a)) (hk : PySem.W.keepIn X.K (.ref a) = true) (hdb : (x == ("__debug__" : PySem.Str)) = false) : SE X G k.xc (.Call (.Name x p0) [] [] pos) (ev T k (.call f .nil)) := fun W' tk => by
  cases hc : k.calm with
  | false => exact pe_no fun σ H Q q => by obtain ⟨al, ρ, h, a, p⟩ := rd_at q; simp [ev, hc, PostE] at p
  | true =>
    refine pe_imp (pe_call0S F.ok (hr hc) hg hm hk F.bnd (L2N.passAt tk) hdb) fun σ H Q q => ?_
    obtain ⟨al, ρ, h, a, p⟩ := rd_at q
    simp only [ev, hc, if_true, evs, Res.bind_ok] at p
    exact spF_of rfl a.hs .nil p
/-- a method of the program's classes -/
structure MethF (X : L2.Cx) (G : Gt) (T : Tb) (k : Cxt) (n : Nat) (mi m : Nat) (nm : PySem.Str) : Prop where
  nofld : ∀ c g f, T.meth mi c = some g → G.fok c f = true → G.fnm f ≠ nm
  at_ : ∀ c C f, G.cls c = some C → T.meth mi c = some f → ∃ a fd ps, L2.Meth X.K C nm a ∧ CallF X G n (k.C f) m a fd ps
theorem RepF.nolook {K : Frag} {H : Hp} {al : AL} {gs : List (PySem.Str × HV)} {fs : List (Nat × W)} (r : RepF K G H al gs fs) (h : ∀ p ∈ fs, G.fnm p.1 ≠ nm) : gs.lookup nm = none := by
  induction r with
  | nil => rfl
  | @cons p q ps qs hr _ ih =>
    obtain ⟨p1, p2⟩ := p
    have hne : (nm == p1) = false := beq_eq_false_iff_ne.mpr fun z => h q List.mem_cons_self (hr.1.symm.trans z.symm)
    rw [List.lookup_cons, hne]
    exact ih fun p hp => h p (List.mem_cons_of_mem _ hp)
theorem se_mth {mi m : Nat} {pl : PySem.Sem Bool} (hr : k.calm = true → L2.Room n X.A) (F : ClsF X.K G T) (M : MethF X G T k n mi (m + 1) nm) (h1 : SE X G k.xc e1 (ev T k x1))
    (ha : SA X G k.xc (e :: es) (evs T k as)) (hlen : ∀ ρ h ws h', evs T k as ρ h = .ok ws h' → ws.length = m) (hs : PySem.starEach (e :: es) X.env = (e :: es).map fun e => (false, PySem.eval e X.env))
    (ht : PySem.eval (.Call (.Attribute e1 nm apos) (e :: es) [] pos) X.env = (do
      let ov ← PySem.eval e1 X.env
      PySem.standAt apos.atName
      let (f, first) ← PySem.holding [ov] (PySem.getMethod ov nm pl)
      PySem.callWith pos f first (PySem.backTo pos (PySem.starEach (e :: es) X.env)) (PySem.backToKw pos (PySem.keywordEach [] X.env)))) : SE X G k.xc (.Call (.Attribute e1 nm apos) (e :: es) [] pos) (ev T k (.mth mi x1 as)) := fun W' tk => by
  cases hc : k.calm with
  | false => exact pe_no fun σ H Q q => by obtain ⟨al, ρ, h, a, p⟩ := rd_at q; simp [ev, hc, PostE] at p
  | true =>
    refine pe_imp (pe_methD (CX := L2N.CX X.prog X.w) (h1 W' tk) (hr hc) (L2N.passAt tk) (ha W' tk) (trees_head hs) (trees_any (trees_tail hs)) ht) fun σ H Q q => ?_
    obtain ⟨al, ρ, h, a, p⟩ := rd_at q
    simp only [ev, hc, if_true] at p
    refine rd_bind a p fun al1 H1 w1 h1 v1 y1 a1 r1 p1 => ?_
    split at p1
    case h_2 => exact p1.elim
    split at p1
    case h_2 => exact p1.elim
    rename_i n0 _ c fs eh
    split at p1
    case h_2 => exact p1.elim
    rename_i f ef
    cases r1 with
    | ref e0 =>
      obtain ⟨C, dx, gs, e1, e2, _, rf⟩ := a1.hs.obj _ _ _ e0 eh
      obtain ⟨pa, fd, ps, hM, hF⟩ := M.at_ c C f e1 ef
      refine ⟨_, C, dx, gs, pa, fd, ps, _, rfl, e2, F.cls c C e1, hM, hF.ok, hF.bnd, rf.rep.nolook fun p hp => M.nofld c _ p.1 ef (rf.ok p hp), ?_⟩
      cases ee : evs T k as ρ h1 with
      | bad => rw [ee] at p1; exact p1.elim
      | exc c fs h' =>
        rw [ee] at p1
        exact rd_ofA a1 (by rw [ee]; exact p1)
      | ok ws h' =>
        have hl := hlen _ _ _ _ ee
        rw [ee] at p1
        refine rd_ofA a1 ?_
        rw [ee]
        intro al2 H2 x2 s2 vs r2
        exact spF_of (by rw [List.length_cons, r2.length, hl]) s2 (.cons (.ref (x2.get e0)) r2) (PostE.ext x2 p1)
theorem se_mth0 {mi : Nat} {pl : PySem.Sem Bool} (hr : k.calm = true → L2.Room n X.A) (F : ClsF X.K G T) (M : MethF X G T k n mi 1 nm) (h1 : SE X G k.xc e1 (ev T k x1))
    (ht : PySem.eval (.Call (.Attribute e1 nm apos) [] [] pos) X.env = (do
      let ov ← PySem.eval e1 X.env
      PySem.standAt apos.atName
      let (f, first) ← PySem.holding [ov] (PySem.getMethod ov nm pl)
      PySem.callWith pos f first (PySem.backTo pos (PySem.starEach [] X.env)) (PySem.backToKw pos (PySem.keywordEach [] X.env)))) : SE X G k.xc (.Call (.Attribute e1 nm apos) [] [] pos) (ev T k (.mth mi x1 .nil)) := fun W' tk => by
  cases hc : k.calm with
  | false => exact pe_no fun σ H Q q => by obtain ⟨al, ρ, h, a, p⟩ := rd_at q; simp [ev, hc, PostE] at p
  | true =>
    refine pe_imp (pe_methD0 (CX := L2N.CX X.prog X.w) (h1 W' tk) (hr hc) (L2N.passAt tk) ht) fun σ H Q q => ?_
    obtain ⟨al, ρ, h, a, p⟩ := rd_at q
    simp only [ev, hc, if_true] at p
    refine rd_bind a p fun al1 H1 w1 h1 v1 y1 a1 r1 p1 => ?_
    split at p1
    case h_2 => exact p1.elim
    split at p1
    case h_2 => exact p1.elim
    rename_i n0 _ c fs eh
    split at p1
    case h_2 => exact p1.elim
    rename_i f ef
    cases r1 with
    | ref e0 =>
      obtain ⟨C, dx, gs, e1, e2, _, rf⟩ := a1.hs.obj _ _ _ e0 eh
      obtain ⟨pa, fd, ps, hM, hF⟩ := M.at_ c C f e1 ef
      refine ⟨_, C, dx, gs, pa, fd, ps, _, rfl, e2, F.cls c C e1, hM, hF.ok, hF.bnd, rf.rep.nolook fun p hp => M.nofld c _ p.1 ef (rf.ok p hp), ?_⟩
      simp only [evs, Res.bind_ok] at p1
      exact spF_of rfl a1.hs (.cons (.ref e0) .nil) p1
/-- a class of the program, made -/
structure MakeF (X : L2.Cx) (G : Gt) (k : Cxt) (n c f m : Nat) (C a : Addr) (fd : PySem.FuncData) (ps : List PySem.Str) : Prop where
  cls : G.cls c = some C
  made : L2.Mk X.K C a
  ok : CallF X G n (k.M f) m a fd ps
theorem made_rel {al : AL} {H : Hp} {h : MH} {c : Nat} {C : Addr} {px dx : Addr} (s : HSim X.K G al H h) (hC : G.cls c = some C) (hx : H px = none) (hdx : H dx = none) (ne : dx ≠ px) :
    Ext al H (al ++ [px]) (L2.upd (L2.upd H dx (.own px)) px (.ins C dx [])) ∧ HSim X.K G (al ++ [px]) (L2.upd (L2.upd H dx (.own px)) px (.ins C dx [])) (h ++ [.ins c []]) := by
  have s1 := s.new (o := .own px) hdx
  have hx1 : L2.upd H dx (.own px) px = none := by rw [L2.upd_ne ne.symm]; exact hx
  have x1 := ext_new (o := .own px) s hdx
  have x2 := ext_add (o := .ins C dx []) s1 hx1
  refine ⟨x1.trans x2, s1.add hx1 ⟨C, dx, [], hC, L2.upd_same, ⟨by rw [L2.upd_ne ne, L2.upd_same], ?_⟩, ⟨.nil, fun p hp => by simp at hp⟩⟩⟩
  intro hm
  rcases AL.mem_app hm with z | z
  · exact s.out hdx z
  · exact ne (List.mem_singleton.mp z)
theorem se_mk {c f m : Nat} {C a : Addr} {fd : PySem.FuncData} {ps : List PySem.Str} (hr : k.calm = true → L2.Room (n + 1) X.A) (M : MakeF X G k n c f (m + 1) C a fd ps) (hi : T.init c = some f) (hg : L2.Gl X x) (hm : X.mg x = some (.ref C)) (hdb : (x == ("__debug__" : PySem.Str)) = false)
    (ha : SA X G k.xc (e :: es) (evs T k as)) (hlen : ∀ ρ h ws h', evs T k as ρ h = .ok ws h' → ws.length = m) (hs : PySem.starEach (e :: es) X.env = (e :: es).map fun e => (false, PySem.eval e X.env)) : SE X G k.xc (.Call (.Name x p0) (e :: es) [] pos) (ev T k (.mk c as)) := fun W' tk => by
  cases hc : k.calm with
  | false => exact pe_no fun σ H Q q => by obtain ⟨al, ρ, h, a, p⟩ := rd_at q; simp [ev, hc, PostE] at p
  | true =>
    refine pe_imp (pe_makeS M.made M.ok.ok (hr hc) hg hm M.ok.bnd (L2N.passAt tk) (ha W' tk) hdb (trees_head hs) (trees_any (trees_tail hs))) fun σ H Q q => ?_
    obtain ⟨al, ρ, h, a, p⟩ := rd_at q
    simp only [ev, hc, hi] at p
    cases ee : evs T k as ρ h with
    | bad => rw [ee] at p; exact p.elim
    | exc c fs h' =>
      rw [ee] at p
      exact rd_ofA a (by rw [ee]; exact p)
    | ok ws h' =>
      have hl := hlen _ _ _ _ ee
      rw [ee, Res.bind_ok] at p
      refine rd_ofA a ?_
      rw [ee]
      intro al1 H1 x1 s1 vs r1 px dx hpx hdx ne
      obtain ⟨x2, s2⟩ := made_rel s1 M.cls hpx hdx ne
      refine spF_of (by rw [List.length_cons, r1.length, hl]) s2 (.cons (.ref (by rw [← s1.len]; exact get_last)) (r1.mono x2)) ((PostE.ext (x1.trans x2) p).bind.imp fun al' H' w h'' x3 s3 p3 v rv => ?_)
      split at p3
      · cases rv
        exact ⟨rfl, p3 al' H' .refl s3 _ (.ref (x3.get (by rw [← s1.len]; exact get_last)))⟩
      · exact p3.elim
theorem se_mk0 {c f : Nat} {C a : Addr} {fd : PySem.FuncData} {ps : List PySem.Str} (hr : k.calm = true → L2.Room (n + 1) X.A) (M : MakeF X G k n c f 1 C a fd ps) (hi : T.init c = some f) (hg : L2.Gl X x) (hm : X.mg x = some (.ref C)) (hdb : (x == ("__debug__" : PySem.Str)) = false) : SE X G k.xc (.Call (.Name x p0) [] [] pos) (ev T k (.mk c .nil)) := fun W' tk => by
  cases hc : k.calm with
  | false => exact pe_no fun σ H Q q => by obtain ⟨al, ρ, h, a, p⟩ := rd_at q; simp [ev, hc, PostE] at p
  | true =>
    refine pe_imp (pe_make0S M.made M.ok.ok (hr hc) hg hm M.ok.bnd (L2N.passAt tk) hdb) fun σ H Q q => ?_
    obtain ⟨al, ρ, h, a, p⟩ := rd_at q
    simp only [ev, hc, hi, evs, Res.bind_ok] at p
    intro px dx hpx hdx ne
    obtain ⟨x2, s2⟩ := made_rel a.hs M.cls hpx hdx ne
    refine spF_of rfl s2 (.cons (.ref (by rw [← a.hs.len]; exact get_last)) .nil) ((PostE.ext x2 p).bind.imp fun al' H' w h'' x3 s3 p3 v rv => ?_)
    split at p3
    · cases rv
      exact ⟨rfl, p3 al' H' .refl s3 _ (.ref (x3.get (by rw [← a.hs.len]; exact get_last)))⟩
    · exact p3.elim
end
end Py

namespace Py
open PySem (Addr Value Obj Expr Pos)
/-- an iterator that yields these items, as long as what stands still stands -/
def ItS (K : Frag) (J : L2.It) (al : AL) (H : Hp) (xs : List W) : Prop := ∃ vs, RepL K H al vs xs ∧ ∀ al' H', Ext al H al' H' →
  (∀ i, i < vs.length → J.go i H') ∧ (∀ i x H'', i < vs.length → J.yld i H' x H'' → H'' = H' ∧ vs[i]? = some x) ∧ (∀ i, vs.length ≤ i → J.stop i H')
def SI (X : L2.Cx) (G : Gt) (xc : Option (Nat × Nat × List (Nat × W))) (tg iter : Expr) (m : EM (List W)) : Prop := ∀ W', L2N.Takes X W' → ∃ wi, L2.PI X tg iter wi ∧
  ∀ σ H R, (∃ al ρ h, At X G xc σ H al ρ h ∧ PostE X.K G W' σ al H (m ρ h) fun al' H' xs _ => ∀ J, ItS X.K J al' H' xs → R J H') → wi σ H R
section
variable {X : L2.Cx} {G : Gt} {T : Tb} {k : Cxt} {pos p0 : Pos} {tg e e1 e2 : Expr} {x1 x2 : Ex}
theorem its_list {K : Frag} {al : AL} {H : Hp} {a : Addr} {vs : List HV} {xs : List W} (s : SLst K H al a vs) (r : RepL K H al vs xs) : ItS K (L2.Itl K a) al H xs := by
  refine ⟨vs, r, fun al' H' x => ?_⟩
  have hq : L2.SqL K H' a vs := .inl (.inl (x.keep _ _ s.1 s.2))
  exact ⟨fun i hi => ⟨vs, vs[i], hq, by simp [hi]⟩, fun i y H'' _ q => ⟨q.1, q.2 vs hq⟩, fun i hi => ⟨vs, hq, hi⟩⟩
theorem its_tup {K : Frag} {al : AL} {H : Hp} {a : Addr} {vs : List HV} {xs : List W} (s : STup K H al a vs) (r : RepL K H al vs xs) : ItS K (L2.Itt K a) al H xs := by
  refine ⟨vs, r, fun al' H' x => ?_⟩
  have hq : L2.SqT K H' a vs := s.imp (fun q => (rd_keep x.w nd_tup q.1 q.2).1) id
  exact ⟨fun i hi => ⟨vs, vs[i], hq, by simp [hi]⟩, fun i y H'' _ q => ⟨q.1, q.2 vs hq⟩, fun i hi => ⟨vs, hq, hi⟩⟩
theorem its_str {K : Frag} {al : AL} {H : Hp} (s : String) : ItS K (L2.Its (S s)) al H (s.toList.map fun c => .str (String.ofList [c])) := by
  refine ⟨s.toList.map fun c => L2.V.str (S (String.ofList [c])), ?_, fun al' H' x => ⟨fun i hi => ?_, fun i y H'' _ q => ?_, fun i hi => ?_⟩⟩
  · have : ∀ l : List Char, RepL K H al (l.map fun c => L2.V.str (S (String.ofList [c]))) (l.map fun c => W.str (String.ofList [c])) := by
      intro l
      induction l with
      | nil => exact .nil
      | cons c l ih => exact .cons (.str _) ih
    exact this _
  · show i < (S s).cps.size
    rw [S_cps]; simpa using hi
  · obtain ⟨e, c, hc, rfl⟩ := q
    refine ⟨e, ?_⟩
    rw [S_cps] at hc
    simp only [List.getElem?_toArray, List.getElem?_map, Option.map_eq_some_iff] at hc
    obtain ⟨d, hd, rfl⟩ := hc
    rw [List.getElem?_map, hd, one_S]; rfl
  · show (S s).cps.size ≤ i
    rw [S_cps]; simpa using hi
theorem its_rng {K : Frag} {al : AL} {H : Hp} (lo : Int) (n : Nat) : ItS K (L2.Itr lo n) al H (rngW lo n) := by
  refine ⟨(List.range n).map fun i => L2.V.int (lo + (i : Nat)), ?_, fun al' H' x => ⟨fun i hi => ?_, fun i y H'' hi q => ?_, fun i hi => ?_⟩⟩
  · have : ∀ l : List Nat, RepL K H al (l.map fun i => L2.V.int (lo + (i : Nat))) (l.map fun i => W.int (lo + (i : Nat))) := by
      intro l
      induction l with
      | nil => exact .nil
      | cons c l ih => exact .cons (.int _) ih
    exact this _
  · show i < n
    simpa using hi
  · obtain ⟨e, rfl⟩ := q
    refine ⟨e, ?_⟩
    have hi : i < n := by simpa using hi
    simp [hi]
  · show n ≤ i
    simpa using hi
open PySem PySem.Spec PyProof.Rows in
/-- a list, a tuple or a text, as it comes -/
theorem pi_any {te : L2.TE} (he : L2.PE X e te) : L2.PI X tg e (fun σ H R => te σ H fun v H1 => (∃ a, v = .ref a ∧ (∃ xs, L2.SqL X.K H1 a xs) ∧ R (L2.Itl X.K a) H1) ∨ (∃ a, v = .ref a ∧ (∃ xs, L2.SqT X.K H1 a xs) ∧ R (L2.Itt X.K a) H1) ∨ ∃ x, v = .str x ∧ R (L2.Its x) H1) := by
  refine ⟨fun pins s σ H R I h => ?_⟩
  refine L2.thn (he.run pins s σ H _ I h) fun v s1 ⟨y, H1, I1, r1, q1⟩ => ?_
  rcases q1 with ⟨a, e, ⟨xs, hq⟩, q⟩ | ⟨a, e, ⟨xs, hq⟩, q⟩ | ⟨x, e, q⟩
  · subst e
    cases r1
    obtain ⟨its, rv, p, hz⟩ := I1.list hq
    refine wpAny_pyIter_list p.isList ?_
    refine ⟨s1.heap.objs.size, [s1.heap.objs.size], _, _, H1, rfl, I1.kept (t' := s1.toks) fun b o e => Heap.get?_push_of_some _ e, L2.turn_list a _, ⟨_, Heap.get?_push_size _ rfl, rfl, rfl⟩, fun b hb => ?_, q⟩
    have e : b = s1.heap.objs.size := by simpa using hb
    subst e
    exact I1.fpOk (Nat.le_refl _) (I1.hok.fresh (Nat.le_refl _))
  · subst e
    cases r1
    obtain ⟨its, rv, p, hz⟩ := I1.tuple hq
    refine wpAny_pyIter_tuple (show s1.heap.IsTuple a its.toArray from p) ?_
    refine ⟨s1.heap.objs.size, [s1.heap.objs.size], _, _, H1, rfl, I1.kept (t' := s1.toks) fun b o e => Heap.get?_push_of_some _ e, L2.turn_tuple a _, ⟨_, Heap.get?_push_size _ rfl, rfl, rfl⟩, fun b hb => ?_, q⟩
    have e : b = s1.heap.objs.size := by simpa using hb
    subst e
    exact I1.fpOk (Nat.le_refl _) (I1.hok.fresh (Nat.le_refl _))
  · subst e
    obtain ⟨t, rfl⟩ := r1
    cases ha : x.cps.all (· < 128)
    · exact wpAny_pyIter_wide ha (L2.pi_one (tk := s1.toks) I1 _ (L2.turn_str _ x t "str_iterator" (.inr rfl)) ⟨_, Heap.get?_push_size _ rfl, rfl, rfl⟩ q)
    · exact wpAny_pyIter_ascii ha (L2.pi_one (tk := s1.toks) I1 _ (L2.turn_str _ x t "str_ascii_iterator" (.inl rfl)) ⟨_, Heap.get?_push_size _ rfl, rfl, rfl⟩ q)
theorem si_its (h1 : SE X G k.xc e (ev T k x1)) : SI X G k.xc tg e (evi T k (.its x1)) := fun W' tk => by
  refine ⟨_, pi_any (h1 W' tk), fun σ H R q => ?_⟩
  obtain ⟨al, ρ, h, a, p⟩ := q
  simp only [evi] at p
  refine rd_bind a p fun al1 H1 w1 h1 v1 y1 a1 r1 p1 => ?_
  cases r1 with
  | tup sa la => exact .inr (.inl ⟨_, rfl, ⟨_, sa.sq⟩, p1 al1 H1 .refl a1.hs _ (its_tup sa la)⟩)
  | lst sa la => exact .inl ⟨_, rfl, ⟨_, sa.sq⟩, p1 al1 H1 .refl a1.hs _ (its_list sa la)⟩
  | str t => exact .inr (.inr ⟨_, rfl, p1 al1 H1 .refl a1.hs _ (its_str t)⟩)
  | _ => exact p1.elim
theorem isClo_iff {i : Int} (h : isClo i = true) : -(2 ^ 62) ≤ i ∧ i < 2 ^ 62 := of_decide_eq_true h
theorem si_rng1 (hg : L2.Gl X "range") (hm : X.mg "range" = none) (h1 : SE X G k.xc e1 (ev T k x1)) (hs : PySem.starEach [e1] X.env = [(false, PySem.eval e1 X.env)]) : SI X G k.xc tg (.Call (.Name "range" p0) [e1] [] pos) (evi T k (.rng1 x1)) := fun W' tk => by
  refine ⟨_, L2.pi_range1 hg hm (L2.pa_cons (h1 W' tk) L2.pa_nil (by rw [hs]; rfl)) hs, fun σ H R q => ?_⟩
  obtain ⟨al, ρ, h, a, p⟩ := q
  simp only [evi] at p
  refine rd_bind a p fun al1 H1 w1 h1 v1 y1 a1 r1 p1 => ?_
  cases r1 with
  | int j =>
    simp only at p1
    split at p1
    · rename_i hc
      have := isClo_iff hc
      exact ⟨j, rfl, this.1, this.2, p1 al1 H1 .refl a1.hs _ (its_rng 0 j.toNat)⟩
    · exact p1.elim
  | _ => exact p1.elim
theorem si_rng2 (hg : L2.Gl X "range") (hm : X.mg "range" = none) (h1 : SE X G k.xc e1 (ev T k x1)) (h2 : SE X G k.xc e2 (ev T k x2)) (hs : PySem.starEach [e1, e2] X.env = [(false, PySem.eval e1 X.env), (false, PySem.eval e2 X.env)]) (hs2 : PySem.starEach [e2] X.env = [(false, PySem.eval e2 X.env)]) : SI X G k.xc tg (.Call (.Name "range" p0) [e1, e2] [] pos) (evi T k (.rng2 x1 x2)) := fun W' tk => by
  refine ⟨_, L2.pi_range2 hg hm (L2.pa_cons (h1 W' tk) (L2.pa_cons (h2 W' tk) L2.pa_nil (by rw [hs2]; rfl)) (by rw [hs, hs2])) hs hs2, fun σ H R q => ?_⟩
  obtain ⟨al, ρ, h, a, p⟩ := q
  simp only [evi] at p
  refine rd_bind a p fun al1 H1 w1 h1 v1 y1 a1 r1 p1 => ?_
  refine rd_bind a1 p1 fun al2 H2 w2 h2 v2 y2 a2 r2 p2 => ?_
  have r1 := r1.mono y2
  cases r1 <;> cases r2 <;> first | exact p2.elim | skip
  rename_i i j
  simp only at p2
  split at p2
  · rename_i hc
    rw [Bool.and_eq_true] at hc
    have c1 := isClo_iff hc.1
    have c2 := isClo_iff hc.2
    exact ⟨i, j, rfl, ⟨c1.1, c1.2, c2.1, c2.2⟩, p2 al2 H2 .refl a2.hs _ (its_rng i (j - i).toNat)⟩
  · exact p2.elim
end
end Py

namespace Py
open PySem (Addr Value Obj Expr Pos)
/-- one more that nobody sees -/
def AL.fence (D : Addr) (A : AL) : AL := ⟨A.l, D :: A.f⟩
theorem mem_fence {D a : Addr} {A : AL} : a ∈ A.fence D ↔ a = D ∨ a ∈ A := by
  constructor
  · rintro (h | h)
    · exact .inr (.inl h)
    · rcases List.mem_cons.mp h with h | h
      · exact .inl h
      · exact .inr (.inr h)
  · rintro (h | h | h)
    · exact .inr (h ▸ List.mem_cons_self)
    · exact .inl h
    · exact .inr (List.mem_cons_of_mem _ h)
theorem not_fence {D a : Addr} {A : AL} (h : a ∉ A.fence D) : a ≠ D ∧ a ∉ A := ⟨fun e => h (mem_fence.mpr (.inl e)), fun e => h (mem_fence.mpr (.inr e))⟩
section
variable {K : Frag} {G : Gt} {al al1 al2 : AL} {H H1 H2 : Hp} {h : MH} {D : Addr}
theorem ExtW.refl : ExtW al H al H := Ext.refl.w
theorem ExtW.trans (x : ExtW al H al1 H1) (y : ExtW al1 H1 al2 H2) : ExtW al H al2 H2 := by
  obtain ⟨r, er⟩ := x.pre
  obtain ⟨q, eq⟩ := y.pre
  exact ⟨⟨r ++ q, by rw [eq, er, AL.app_assoc]⟩, fun a o nd e n => y.keep a o nd (x.keep a o nd e n).1 (x.keep a o nd e n).2⟩
/-- what nobody sees is written -/
theorem extW_mem {o : L2.HO} (hD : D ∈ al) : ExtW al H al (L2.upd H D o) :=
  ⟨⟨[], AL.app_nil⟩, fun a u _ e n => ⟨by rw [L2.upd_ne fun (z : a = D) => n (by rw [z]; exact hD)]; exact e, n⟩⟩
mutual
theorem Rep.fence (hD : H D = none) {o : L2.HO} : ∀ {v : HV} {w : W}, Rep K H al v w → Rep K (L2.upd H D o) (al.fence D) v w
  | _, _, .non => .non
  | _, _, .bl b => .bl b
  | _, _, .int i => .int i
  | _, _, .str s => .str s
  | _, _, .tup q r => .tup (q.imp (fun q => by
      obtain ⟨q, n⟩ := q
      rcases q with q | ⟨o', q⟩
      · have ne := L2.ne_of_none q hD
        exact ⟨.inl (by rw [L2.upd_ne ne]; exact q), fun z => (mem_fence.mp z).elim ne n⟩
      · have ne := L2.ne_of_none q hD
        exact ⟨.inr ⟨o', by rw [L2.upd_ne ne]; exact q⟩, fun z => (mem_fence.mp z).elim ne n⟩) id) (RepL.fence hD r)
  | _, _, .lst q r => .lst ⟨by rw [L2.upd_ne (L2.ne_of_none q.1 hD)]; exact q.1, fun z => (mem_fence.mp z).elim (L2.ne_of_none q.1 hD) q.2⟩ (RepL.fence hD r)
  | _, _, .ref q => .ref q
  | _, _, .scr q => .scr (q.imp (fun ⟨q, n, o', u, e⟩ => by
    have ne := L2.ne_of_none e hD
    exact ⟨q.imp (fun q => by rw [L2.upd_ne ne]; exact q) fun ⟨o2, q⟩ => ⟨o2, by rw [L2.upd_ne ne]; exact q⟩, fun z => (mem_fence.mp z).elim ne n, o', u, by rw [L2.upd_ne ne]; exact e⟩) id)
theorem RepL.fence (hD : H D = none) {o : L2.HO} : ∀ {vs : List HV} {ws : List W}, RepL K H al vs ws → RepL K (L2.upd H D o) (al.fence D) vs ws
  | _, _, .nil => .nil
  | _, _, .cons r t => .cons (Rep.fence hD r) (RepL.fence hD t)
end
mutual
theorem Rep.unf : ∀ {v : HV} {w : W}, Rep K H (al.fence D) v w → Rep K H al v w
  | _, _, .non => .non
  | _, _, .bl b => .bl b
  | _, _, .int i => .int i
  | _, _, .str s => .str s
  | _, _, .tup q r => .tup (q.imp (fun q => ⟨q.1, (not_fence q.2).2⟩) id) (RepL.unf r)
  | _, _, .lst q r => .lst ⟨q.1, (not_fence q.2).2⟩ (RepL.unf r)
  | _, _, .ref q => .ref q
  | _, _, .scr q => .scr (q.imp (fun ⟨q, n, e⟩ => ⟨q, (not_fence n).2, e⟩) id)
theorem RepL.unf : ∀ {vs : List HV} {ws : List W}, RepL K H (al.fence D) vs ws → RepL K H al vs ws
  | _, _, .nil => .nil
  | _, _, .cons r t => .cons (Rep.unf r) (RepL.unf t)
end
theorem Fa2.imp2 {α β : Type} {R Q : α → β → Prop} {as : List α} {bs : List β} (h : Fa2 R as bs) (f : ∀ a b, R a b → Q a b) : Fa2 Q as bs := Fa2.imp f h
theorem HSim.fence (s : HSim K G al H h) (hD : H D = none) {o : L2.HO} : HSim K G (al.fence D) (L2.upd H D o) h := by
  refine ⟨s.len, s.nd, fun a ha => ?_, fun n a m e1 e2 => ?_⟩
  · rcases List.mem_cons.mp ha with rfl | ha
    · exact ⟨fun z => s.out hD (.inl z), _, L2.upd_same⟩
    · obtain ⟨q, u, e⟩ := s.fen a ha
      exact ⟨q, u, by rw [L2.upd_ne (L2.ne_of_none e hD)]; exact e⟩
  · have r := s.obj n a m e1 e2
    obtain ⟨u, eu⟩ := r.some
    have ne := L2.ne_of_none eu hD
    cases m with
    | lst ws => obtain ⟨vs, q, r⟩ := r; exact ⟨vs, by rw [L2.upd_ne ne]; exact q, r.fence hD⟩
    | dic ws => obtain ⟨vs, q, r⟩ := r; exact ⟨vs, by rw [L2.upd_ne ne]; exact q, Fa2.imp2 r fun _ _ q => ⟨q.1, q.2.fence hD⟩⟩
    | fdic ws => obtain ⟨od, vs, q, r⟩ := r; exact ⟨od, vs, by rw [L2.upd_ne ne]; exact q, Fa2.imp2 r fun _ _ q => ⟨q.1, q.2.fence hD⟩⟩
    | ins c fs =>
      obtain ⟨C, dx, gs, q0, q, nn, r⟩ := r
      have nx := L2.ne_of_none nn.1 hD
      exact ⟨C, dx, gs, q0, by rw [L2.upd_ne ne]; exact q, ⟨by rw [L2.upd_ne nx]; exact nn.1, fun z => (mem_fence.mp z).elim nx nn.2⟩, ⟨Fa2.imp2 r.rep fun _ _ q => ⟨q.1, q.2.fence hD⟩, r.ok⟩⟩
theorem HSim.unf (s : HSim K G (al.fence D) H h) : HSim K G al H h := by
  refine ⟨s.len, s.nd, fun a ha => s.fen a (List.mem_cons_of_mem _ ha), fun n a m e1 e2 => ?_⟩
  have r := s.obj n a m e1 e2
  cases m with
  | lst ws => obtain ⟨vs, q, r⟩ := r; exact ⟨vs, q, r.unf⟩
  | dic ws => obtain ⟨vs, q, r⟩ := r; exact ⟨vs, q, Fa2.imp2 r fun _ _ q => ⟨q.1, q.2.unf⟩⟩
  | fdic ws => obtain ⟨od, vs, q, r⟩ := r; exact ⟨od, vs, q, Fa2.imp2 r fun _ _ q => ⟨q.1, q.2.unf⟩⟩
  | ins c fs => obtain ⟨C, dx, gs, q0, q, nn, r⟩ := r; exact ⟨C, dx, gs, q0, q, ⟨nn.1, (not_fence nn.2).2⟩, ⟨Fa2.imp2 r.rep fun _ _ q => ⟨q.1, q.2.unf⟩, r.ok⟩⟩
/-- what nobody sees is written: the rest stands -/
theorem HSim.fset (s : HSim K G al H h) (hD : D ∈ al.f) {o : L2.HO} : HSim K G al (L2.upd H D o) h := by
  have x : ExtW al H al (L2.upd H D o) := extW_mem (.inr hD)
  refine ⟨s.len, s.nd, fun a ha => ⟨(s.fen a ha).1, ?_⟩, fun n a m e1 e2 => ?_⟩
  · by_cases e : a = D
    · exact ⟨_, by rw [e, L2.upd_same]⟩
    · rw [L2.upd_ne e]; exact (s.fen a ha).2
  · have r := s.obj n a m e1 e2
    have ne : a ≠ D := fun z => (s.fen D hD).1 (z ▸ List.mem_iff_getElem?.mpr ⟨n, e1⟩)
    cases m with
    | lst ws => obtain ⟨vs, q, r⟩ := r; exact ⟨vs, by rw [L2.upd_ne ne]; exact q, r.monoW x⟩
    | dic ws => obtain ⟨vs, q, r⟩ := r; exact ⟨vs, by rw [L2.upd_ne ne]; exact q, r.monoW x⟩
    | fdic ws => obtain ⟨od, vs, q, r⟩ := r; exact ⟨od, vs, by rw [L2.upd_ne ne]; exact q, r.monoW x⟩
    | ins c fs =>
      obtain ⟨C, dx, gs, q0, q, nn, r⟩ := r
      exact ⟨C, dx, gs, q0, by rw [L2.upd_ne ne]; exact q, x.keep _ _ nd_own nn.1 nn.2, r.monoW x⟩
/-- a later heap within the fence is later without -/
theorem ext_unf {al3 : AL} {H3 : Hp} (s : HSim K G al3 H3 h) (x : Ext (al2.fence D) H2 al3 H3) (nD : D ∉ al2) : ∃ al4, al3 = al4.fence D ∧ Ext al2 H2 al4 H3 ∧ D ∉ al4 := by
  obtain ⟨r, er⟩ := x.pre
  refine ⟨al2 ++ r, er, ?_, ?_⟩
  · refine ⟨⟨r, rfl⟩, fun a o e n => ?_, fun a ha n => ?_, fun a ha => x.fen a (List.mem_cons_of_mem _ ha), fun a o u m e => x.frz a o u (mem_fence.mpr (.inr m)) e⟩
    · by_cases h : a = D
      · subst h
        rw [x.fen a List.mem_cons_self]; exact e
      · exact x.keep a o e fun z => (mem_fence.mp z).elim h n
    · have hm : a ∈ al3 := by rw [er]; exact mem_fence.mpr (.inr ha)
      refine x.new a hm fun z => ?_
      rcases mem_fence.mp z with rfl | z
      · rcases ha with ha | ha
        · refine (s.fen a ?_).1 ?_
          · rw [er]; exact List.mem_cons_self
          · rw [er]; exact ha
        · exact n (.inr ha)
      · exact n z
  · rintro (h | h)
    · refine (s.fen D ?_).1 ?_
      · rw [er]; exact List.mem_cons_self
      · rw [er]; exact h
    · exact nD (.inr h)
end
theorem wipe_self {σ : L2.St} {i : Nat} {x : HV} : ∀ {vs : List Nat}, i ∈ vs → L2.wipe ((L2.wipe σ vs).set i (some x)) vs = L2.wipe σ vs := by
  intro vs hi
  have key : ∀ (τ : L2.St), τ.length = σ.length → (∀ j, j ∉ vs → τ[j]? = σ[j]?) → L2.wipe τ vs = L2.wipe σ vs := by
    intro τ hl hj
    refine List.ext_getElem? fun j => ?_
    by_cases h : j ∈ vs
    · have : ∀ (us : List Nat) (a b : L2.St), a.length = b.length → j ∈ us → (L2.wipe a us)[j]? = (L2.wipe b us)[j]? := by
        intro us
        induction us with
        | nil => intro a b _ h; simp at h
        | cons v us ih =>
          intro a b hab h
          unfold L2.wipe
          by_cases e : v = j
          · subst e
            by_cases hlt : v < (L2.wipe a us).length
            · rw [List.getElem?_set_self hlt, List.getElem?_set_self (by rw [L2.wipe_length] at hlt ⊢; rw [← hab]; exact hlt)]
            · rw [List.getElem?_eq_none (by simpa using hlt), List.getElem?_eq_none (by
                rw [List.length_set, L2.wipe_length, ← hab, ← L2.wipe_length a us]; exact Nat.not_lt.mp hlt)]
          · rw [List.getElem?_set_ne e, List.getElem?_set_ne e]
            rcases List.mem_cons.mp h with h | h
            · exact absurd h.symm e
            · exact ih a b hab h
      exact this vs τ σ hl h
    · rw [L2.wipe_out h, L2.wipe_out h]; exact hj j h
  refine key _ (by rw [List.length_set, L2.wipe_length]) fun j hj => ?_
  rw [List.getElem?_set_ne fun (e : i = j) => hj (by rw [← e]; exact hi), L2.wipe_out hj]
theorem wipe_len (ρ : Env) : ∀ vs : List Nat, (wipe ρ vs).length = ρ.length
  | [] => rfl
  | v :: vs => by unfold wipe; rw [List.length_set, wipe_len ρ vs]
theorem wipe_get {ρ : Env} {i : Nat} {x : W} : ∀ {vs : List Nat}, (wipe ρ vs)[i]? = some (some x) → ρ[i]? = some (some x) ∧ i ∉ vs
  | [], h => ⟨h, by simp⟩
  | v :: vs, h => by
    unfold wipe at h
    by_cases hi : v = i
    · subst hi
      by_cases hv : v < (wipe ρ vs).length
      · rw [List.getElem?_set_self hv] at h; cases h
      · rw [List.getElem?_eq_none (by simpa using hv)] at h; cases h
    · rw [List.getElem?_set_ne hi] at h
      obtain ⟨h1, h2⟩ := wipe_get h
      exact ⟨h1, by simp only [List.mem_cons, not_or]; exact ⟨fun e => hi e.symm, h2⟩⟩
theorem esim_set {K : Frag} {H : Hp} {al : AL} {σ : L2.St} {ρ : Env} (e : ESim K H al σ ρ) {i : Nat} {v : HV} {w : W} (r : Rep K H al v w) : ESim K H al (σ.set i (some v)) (ρ.set i (some w)) := by
  refine ⟨by rw [List.length_set, List.length_set, e.1], fun j x q => ?_⟩
  by_cases h : i = j
  · subst h
    by_cases hl : i < ρ.length
    · rw [List.getElem?_set_self hl] at q; cases q
      exact ⟨v, List.getElem?_set_self (by rw [← e.1]; exact hl), r⟩
    · rw [List.getElem?_eq_none (by simpa using hl)] at q; cases q
  · rw [List.getElem?_set_ne h] at q ⊢
    exact e.2 j x q
theorem esim_wipe {K : Frag} {H : Hp} {al : AL} {σ : L2.St} {ρ : Env} (e : ESim K H al σ ρ) (ws : List Nat) : ESim K H al (L2.wipe σ ws) (wipe ρ ws) := by
  refine ⟨by rw [wipe_len, L2.wipe_length, e.1], fun j x q => ?_⟩
  obtain ⟨q1, q2⟩ := wipe_get q
  rw [L2.wipe_out q2]
  exact e.2 j x q1
/-- a clause's tests -/
def STs (X : L2.Cx) (G : Gt) (xc : Option (Nat × Nat × List (Nat × W))) (ifs : List Expr) (m : EM Bool) : Prop := ∀ W', L2N.Takes X W' → L2.PTs X ifs (rdT X G xc W' m)
section
variable {X : L2.Cx} {G : Gt} {T : Tb} {k : Cxt} {pos p0 : Pos} {tg iter elt : Expr} {ifs : List Expr} {it c x : Ex}
theorem sts_nil : STs X G k.xc [] (evT T k .yes) := fun W' tk => ⟨fun pins s σ H Q I q => by
  obtain ⟨al, ρ, h, a, p⟩ := rd_atT q
  refine L2.pts_nil.run pins s σ H Q I ?_
  exact p al H .refl a.hs⟩
theorem sts_one {e : Expr} (h : ST X G k.xc e (evT T k c)) : STs X G k.xc [e] (evT T k c) := fun W' tk => L2.pts_one (h W' tk)
abbrev Blks (X : L2.Cx) (scope : PySem.Scope) (P : L2.Cx → Prop) : Prop := ∀ (s : PySem.Shared) (H : Hp) (C : Addr) (cl : List (PySem.Str × Addr)) (fp : List Addr), P (X.blk s H scope (PySem.compEnvC scope cl C X.env) fp)
def NoX : WX := fun _ _ _ _ => False
theorem takes_no {X : L2.Cx} : L2N.Takes X NoX := fun u s' ⟨_, _, _, _, _, _, _, _, _, _, _, _, _, _, _, _, w⟩ => w.elim
/-- the evaluator's item -/
def itemF (T : Tb) (k : Cxt) (i : Nat) (ws : List Nat) (c e : Ex) (ρ : Env) (x : W) (h2 : MH) : Res (Option W) :=
  (ev T k c ((wipe ρ ws).set i (some x)) h2).bind fun k' h3 => (lift (truth h3 k') h3).bind fun b h4 =>
    if b then (ev T k e ((wipe ρ ws).set i (some x)) h4).bind fun y h5 => .ok (some y) h5 else .ok none h4
theorem itemF_eq (i : Nat) (ws : List Nat) (e : Ex) (ρ : Env) (x : W) (h2 : MH) : itemF T k i ws c e ρ x h2 = (evT T k c ((wipe ρ ws).set i (some x)) h2).bind fun b h4 =>
    if b then (ev T k e ((wipe ρ ws).set i (some x)) h4).bind fun y h5 => .ok (some y) h5 else .ok none h4 := by
  unfold itemF evT
  rw [Res.bind_assoc]
structure CompI (X : L2.Cx) (G : Gt) (f : W → MH → Res (Option W)) (xs : List W) (W' : WX) (σ : L2.St) (al1 : AL) (H1 : Hp) (D : Addr) (R : AL → Hp → W → MH → Prop) (i : Nat) (H : Hp) (al2 : AL) (h : MH) (ws : List W) (vs : List HV) : Prop where
  le : i ≤ xs.length
  x : Ext al1 H1 al2 H
  xw : ExtW (al1.fence D) (L2.upd H1 D (.lst [])) (al2.fence D) H
  s : HSim X.K G (al2.fence D) H h
  nD : D ∉ al2
  eD : H D = some (.lst vs)
  la : RepL X.K H (al2.fence D) vs ws
  p : PostE X.K G W' σ al1 H1 (compL f (xs.drop i) ws h) R
theorem lc_rule {J : L2.It} {i : Nat} {ws : List Nat} {W' : WX} {σ : L2.St} {al1 : AL} {H1 : Hp} {ρ : Env} {h1 : MH} {xs : List W} {R : AL → Hp → W → MH → Prop} {D : Addr} {tt : L2.TT} {te : L2.TE} {Y : L2.Cx} (hY : Y.K = X.K)
    (hi : i ∈ ws) (a : At X G k.xc σ H1 al1 ρ h1) (hk : k.xc = none) (hJ : ItS X.K J al1 H1 xs) (hD : H1 D = none) (p : PostE X.K G W' σ al1 H1 (compL (itemF T k i ws c x ρ) xs [] h1) R)
    (htt : ∀ σ H Q, rdT Y G none NoX (evT T k c) σ H Q → tt σ H Q) (hte : ∀ σ H Q, rdE Y G none NoX (ev T k x) σ H Q → te σ H Q) {Q : HV → Hp → Prop} (hQ : ∀ al' H' w h', R al' H' w h' → ∀ v, Rep X.K H' al' v w → Q v H') :
    ∃ W : Nat → Nat → Hp → Prop, (∃ m, W 0 m (L2.upd H1 D (.lst []))) ∧ ∀ i' m H, W i' m H →
  (J.stop i' H ∧ Q (.ref D) H) ∨ (J.go i' H ∧ ∃ Nx : Hp → Prop, (∀ H', Nx H' → ∃ m', m' < m ∧ W (i' + 1) m' H') ∧ ∀ x H', J.yld i' H x H' → L2.gName i x (L2.wipe σ ws) H' fun σ2 H2 => L2.wipe σ2 ws = L2.wipe σ ws ∧ tt σ2 H2 fun b H3 =>
    if b = true then te σ2 H3 fun y H4 => ∃ acc, H4 D = some (.lst acc) ∧ acc.length < PySem.sizeLine ∧ Nx (L2.upd H4 D (.lst (acc ++ [y]))) else Nx H3) := by
  obtain ⟨vx, rx, hJ⟩ := hJ
  have hlen := rx.length
  have nD1 : D ∉ al1 := a.hs.out hD
  refine ⟨fun i' m H => m = xs.length - i' ∧ ∃ al2 h ws vs, CompI X G (itemF T k i _ c x ρ) xs W' σ al1 H1 D R i' H al2 h ws vs, ⟨xs.length, by simp, al1, h1, [], [], ⟨Nat.zero_le _, ext_new a.hs hD, .refl, a.hs.fence hD, nD1, L2.upd_same, .nil, p⟩⟩, ?_⟩
  rintro i' m H ⟨rfl, al2, h, acc, vs, C⟩
  obtain ⟨j1, j2, j3⟩ := hJ al2 H C.x
  by_cases hlt : i' < xs.length
  · refine .inr ⟨j1 i' (by rw [hlen]; exact hlt), fun H' => ∃ al2 h ws vs, CompI X G (itemF T k i _ c x ρ) xs W' σ al1 H1 D R (i' + 1) H' al2 h ws vs, fun H' q => ⟨xs.length - (i' + 1), by omega, rfl, q⟩, fun v H' y => ?_⟩
    obtain ⟨rfl, ev'⟩ := j2 i' v H' (by rw [hlen]; exact hlt) y
    have ew : xs[i']? = some xs[i'] := by simp [hlt]
    generalize hw : xs[i'] = w at ew
    obtain ⟨v2, ev2, r⟩ := rx.get ew
    rw [ev'] at ev2
    cases ev2
    have rF : Rep X.K H' (al2.fence D) v w := (r.fence hD).monoW C.xw
    have es : ESim X.K H' (al2.fence D) σ ρ := ⟨a.es.1, fun j z q => by
      obtain ⟨u, q1, r⟩ := a.es.2 j z q
      exact ⟨u, q1, (r.fence hD).monoW C.xw⟩⟩
    have es2 := esim_set (i := i) (esim_wipe es ws) rF
    have pd := C.p
    have ed : xs.drop i' = w :: xs.drop (i' + 1) := by rw [← hw]; exact List.drop_eq_getElem_cons hlt
    rw [ed] at pd
    show L2.wipe ((L2.wipe σ ws).set i (some v)) ws = L2.wipe σ ws ∧ _
    refine ⟨wipe_self hi, htt _ _ _ ?_⟩
    have aF : At Y G none ((L2.wipe σ ws).set i (some v)) H' (al2.fence D) ((wipe ρ ws).set i (some w)) h := ⟨by rw [hY]; exact C.s, by rw [hY]; exact es2, trivial⟩
    refine rd_ofT aF ?_
    simp only [compL, itemF_eq] at pd
    cases et : evT T k c ((wipe ρ ws).set i (some w)) h with
    | bad => rw [et] at pd; exact pd.elim
    | exc => rw [et] at pd; exact pd.elim
    | ok b h3 =>
      rw [et] at pd
      simp only [Res.bind_ok] at pd
      rw [hY]
      intro al3 H3 x3 s3
      obtain ⟨al4, rfl, x4, n4⟩ := ext_unf s3 x3 C.nD
      have eD3 : H3 D = some (.lst vs) := (x3.fen D List.mem_cons_self).trans C.eD
      cases b with
      | false =>
        simp only [Bool.false_eq_true, if_false] at pd ⊢
        exact ⟨al4, h3, acc, vs, ⟨hlt, C.x.trans x4, C.xw.trans x3.w, s3, n4, eD3, C.la.mono x3, pd⟩⟩
      | true =>
        simp only [if_true] at pd ⊢
        refine hte _ _ _ ?_
        have a3 : At Y G none ((L2.wipe σ ws).set i (some v)) H3 (al4.fence D) ((wipe ρ ws).set i (some w)) h3 := ⟨by rw [hY]; exact s3, by rw [hY]; exact es2.mono x3, trivial⟩
        refine rd_of a3 ?_
        cases ee : ev T k x ((wipe ρ ws).set i (some w)) h3 with
        | bad => rw [ee] at pd; exact pd.elim
        | exc => rw [ee] at pd; exact pd.elim
        | ok y h5 =>
          rw [ee] at pd
          simp only [Res.bind_ok] at pd
          rw [hY]
          intro al5 H5 x5 s5 u ru
          obtain ⟨al6, rfl, x6, n6⟩ := ext_unf s5 x5 n4
          have eD5 : H5 D = some (.lst vs) := (x5.fen D List.mem_cons_self).trans eD3
          split at pd
          · rename_i hl
            have la5 := (C.la.mono x3).mono x5
            refine ⟨vs, eD5, by rw [la5.length, ← lim_eq]; exact hl, al6, h5, acc ++ [y], vs ++ [u], ?_⟩
            have xm : ExtW (al6.fence D) H5 (al6.fence D) (L2.upd H5 D (.lst (vs ++ [u]))) := extW_mem (mem_fence.mpr (.inl rfl))
            have x16 : Ext al1 H1 al6 H5 := (C.x.trans x4).trans x6
            refine ⟨hlt, ⟨x16.pre, fun b o e n => ?_, x16.new, fun b hb => ?_, fun b o v m e => ?_⟩, ((C.xw.trans x3.w).trans x5.w).trans xm, s5.fset List.mem_cons_self, n6, L2.upd_same, (la5.append (.cons ru .nil)).monoW xm, pd⟩
            · rw [L2.upd_ne (L2.ne_of_none e hD)]; exact x16.keep b o e n
            · obtain ⟨o, e⟩ := (a.hs.fen b hb).2
              rw [L2.upd_ne (L2.ne_of_none e hD)]; exact x16.fen b hb
            · rw [L2.upd_ne (L2.ne_of_none e hD)]; exact x16.frz b o v m e
          · exact pd.elim
  · have e : i' = xs.length := Nat.le_antisymm C.le (Nat.not_lt.mp hlt)
    refine .inl ⟨j3 i' (by rw [hlen]; exact Nat.not_lt.mp hlt), ?_⟩
    have pd := C.p
    rw [e, List.drop_length] at pd
    exact hQ _ _ _ _ (pd al2 H C.x C.s.unf) _ (.lst ⟨C.eD, C.nD⟩ C.la.unf)
theorem calm_none (h : k.calm = true) : k.xc = none := by
  cases e : k.xc with
  | none => rfl
  | some _ => rw [Cxt.calm, e] at h; cases h
variable {scope : PySem.Scope} {own : List (PySem.Str × Nat)} {ws : List Nat} {i : Nat} {y : PySem.Str} {py : Pos}
/-- what a comprehension asks -/
structure CompF (X : L2.Cx) (G : Gt) (T : Tb) (k : Cxt) (y : PySem.Str) (py : Pos) (scope : PySem.Scope) (ws : List Nat) (i : Nat) (iter : Expr) (ifs : List Expr) (elt : Expr) (it c x : Ex) (own : List (PySem.Str × Nat)) : Prop where
  calm : k.calm = true → X.calm = true
  nd : X.N.Nodup
  src : SI X G k.xc (.Name y py) iter (evi T k it)
  ok : L2.BlkOk X.N X.env.scope scope own
  wss : own.map (·.2) = ws
  mem : i ∈ ws
  tg : Blks X scope fun Y => L2.PG Y (.Name y py) (L2.gName i)
  test : k.calm = true → Blks X scope fun Y => STs Y G k.xc ifs (evT T k c)
  elts : k.calm = true → Blks X scope fun Y => SE Y G k.xc elt (ev T k x)
  plain : ∀ x, PySem.foldedSetIterable iter X.env x = pure x
theorem lc_of (F : CompF X G T k y py scope ws i iter ifs elt it c x own) {W' : WX} (hc : k.calm = true) {wi : L2.TI}
    (hwi : ∀ σ H R, (∃ al ρ h, At X G k.xc σ H al ρ h ∧ PostE X.K G W' σ al H (evi T k it ρ h) fun al' H' xs _ => ∀ J, ItS X.K J al' H' xs → R J H') → wi σ H R) {σ : L2.St} {H : Hp} {Q : HV → Hp → Prop}
    (q : rdE X G k.xc W' (ev T k (.comp i ws it c x)) σ H Q) : L2.tLc wi (L2.gName i) (rdT X G none NoX (evT T k c)) (rdE X G none NoX (ev T k x)) (own.map (·.2)) σ H Q := by
  obtain ⟨al, ρ, h, a, p⟩ := rd_at q
  simp only [ev, hc, if_true] at p
  refine hwi _ _ _ ⟨al, ρ, h, a, p.bind.imp fun al1 H1 xs h1 x1 s1 p1 J hJ D hD => ?_⟩
  rw [F.wss]
  exact lc_rule (X := X) (G := G) (T := T) (k := k) (c := c) (x := x) (Y := X) rfl F.mem (a.next x1 s1) (calm_none hc) hJ hD p1 (fun _ _ _ q => q) (fun _ _ _ q => q) fun al' H' w h' q v r => q v r
theorem se_comp (F : CompF X G T k y py scope ws i iter ifs elt it c x own) : SE X G k.xc (.ListComp elt [⟨.Name y py, iter, ifs, 0⟩] scope pos) (ev T k (.comp i ws it c x)) := fun W' tk => by
  cases hc : k.calm with
  | false => exact pe_no fun σ H Q q => by obtain ⟨al, ρ, h, a, p⟩ := rd_at q; simp [ev, hc, PostE] at p
  | true =>
    obtain ⟨wi, hpi, hwi⟩ := F.src W' tk
    have hx := calm_none hc
    have ht := F.test hc
    have he := F.elts hc
    rw [hx] at ht he
    exact pe_imp (L2.pe_lc (F.calm hc) F.nd hpi F.ok (tt := rdT X G none NoX (evT T k c)) (te := rdE X G none NoX (ev T k x)) F.tg (fun s H C cl fp => ht s H C cl fp NoX takes_no) (fun s H C cl fp => he s H C cl fp NoX takes_no) F.plain) fun σ H Q q => lc_of F hc hwi q
end
end Py

namespace Py
open PySem (Addr Value Obj Expr Pos)
theorem its_keys {K : Frag} {al : AL} {H : Hp} {d : Addr} {od : Obj} {ys : List (L2.Key × HV)} {kvs : List (Key × W)} (m : d ∈ al) (e : H d = some (.frz od (.dK ys))) (r : RepD K H al ys kvs) :
    ItS K (L2.Itk d od ys) al H (kvs.map fun q => keyW q.1) := by
  refine ⟨ys.map fun p => L2.kV p.1, ?_, fun al' H' x => ?_⟩
  · have key : ∀ {ys : List (L2.Key × HV)} {kvs : List (Key × W)}, RepD K H al ys kvs → RepL K H al (ys.map fun p => L2.kV p.1) (kvs.map fun q => keyW q.1) := by
      intro ys kvs r
      induction r with
      | nil => exact .nil
      | @cons p q ys kvs r t ih =>
        refine .cons ?_ ih
        show Rep K H al (L2.kV p.1) (keyW q.1)
        rw [r.1]
        cases q.1 with
        | inl i => exact .int i
        | inr s => exact .str s
    exact key r
  · have e' := x.frz d od _ m e
    refine ⟨fun i hi => ⟨e', by simpa using hi⟩, fun i y H'' _ q => ?_, fun i hi => ⟨e', by simpa using hi⟩⟩
    obtain ⟨q1, k, v, q2, rfl⟩ := q
    exact ⟨q1, by rw [List.getElem?_map, q2]; rfl⟩
section
variable {X : L2.Cx} {G : Gt} {T : Tb} {k : Cxt} {pos p0 : Pos} {iter elt : Expr} {ifs : List Expr} {it c x : Ex} {scope : PySem.Scope} {own : List (PySem.Str × Nat)} {ws : List Nat} {i : Nat} {y : PySem.Str} {py : Pos}
theorem PostE.fin_of {K : Frag} {W' W2 : WX} {σ : L2.St} {al al1 : AL} {H H1 : Hp} {r : Res W} {f : W → MH → Res W} {R R2 : AL → Hp → W → MH → Prop} (p : PostE K G W' σ al H (r.fin f) R)
    (g : ∀ w h, PostE K G W' σ al H (f w h) R → ∀ al' H', Ext al1 H1 al' H' → HSim K G al' H' h → R2 al' H' w h) : PostE K G W2 σ al1 H1 r R2 := by
  cases r with
  | ok w h => exact g w h p
  | exc => exact p.elim
  | bad => exact p.elim
/-- what is asked: as of a comprehension, the walked dict's own expression beside -/
theorem se_cmk (F : CompF X G T k y py scope ws i iter ifs elt (.its it) c x own) (hi : SE X G k.xc iter (ev T k it)) : SE X G k.xc (.ListComp elt [⟨.Name y py, iter, ifs, 0⟩] scope pos) (ev T k (.cmk i ws it c x)) := fun W' tk => by
  cases hc : k.calm with
  | false => exact pe_no fun σ H Q q => by obtain ⟨al, ρ, h, a, p⟩ := rd_at q; simp [ev, hc, PostE] at p
  | true =>
    have hx := calm_none hc
    have ht := F.test hc
    have he := F.elts hc
    have h0 := hi NoX takes_no
    rw [hx] at ht he
    refine pe_imp (L2.pe_lock (L2.pe_lc (F.calm hc) F.nd (L2.pi_keys h0) F.ok (tt := rdT X G none NoX (evT T k c)) (te := rdE X G none NoX (ev T k x)) F.tg (fun s H C cl fp => ht s H C cl fp NoX takes_no) (fun s H C cl fp => he s H C cl fp NoX takes_no) F.plain)) fun σ H Q q => ?_
    obtain ⟨al, ρ, h, a, p⟩ := rd_at q
    simp only [ev, hc, if_true] at p
    split at p
    case h_2 => exact p.elim
    rename_i n h' e0
    split at p
    case h_2 => exact p.elim
    rename_i kvs e1
    split at p
    case h_2 => exact p.elim
    rename_i m h1 e2
    split at p
    case isFalse => exact p.elim
    rename_i hmn
    subst hmn
    obtain ⟨d, ed, ys, hd, rd⟩ := a.hs.ad e1
    have md : d ∈ al := AL.mem_at ed
    refine ⟨d, .dK ys, hd, trivial, fun od => ?_⟩
    have xl : Ext al H al (L2.upd H d (.frz od (.dK ys))) := ext_set a.hs ed hd
    have sf : HSim X.K G al (L2.upd H d (.frz od (.dK ys))) (setAt h m (.fdic kvs)) := a.hs.set ed ⟨od, ys, L2.upd_same, rd.mono xl⟩
    have af := a.next xl sf
    refine rd_of af ?_
    rw [e2]
    intro al1 H1 x1 s1 v rv
    cases rv with
    | @ref a1 _ q1 =>
      have ea : a1 = d := by
        have := x1.get ed
        rw [this] at q1
        exact (Option.some.inj q1).symm
      subst ea
      have hf1 : H1 a1 = some (.frz od (.dK ys)) := x1.frz a1 od _ md L2.upd_same
      have m1 : a1 ∈ al1 := AL.mem_at q1
      refine ⟨a1, od, rfl, .inl ⟨ys, hf1, fun D hD => ?_⟩⟩
      rw [F.wss]
      refine lc_rule (X := X) (G := G) (T := T) (k := k) (c := c) (x := x) (Y := X) (W' := NoX) (R := fun al2 H2 w _ => ∀ v, Rep X.K H2 al2 v w → H2 a1 = some (.frz od (.dK ys)) ∧ Q v (L2.upd H2 a1 (.dK ys)))
        rfl F.mem (af.next x1 s1) hx (its_keys m1 hf1 ((rd.mono xl).mono x1)) hD (p.fin_of fun w h2 p2 al2 H2 x2 s2 v rv => ?_) (fun _ _ _ q => q) (fun _ _ _ q => q) fun al' H' w h' q v r => q v r
      have xt := x1.trans x2
      have hf2 := xt.frz a1 od _ md L2.upd_same
      refine ⟨hf2, ?_⟩
      have ne : ∀ {b : Addr} {o : L2.HO}, H b = some o → b ∉ al → b ≠ a1 := fun _ n z => n (z ▸ md)
      have xu : Ext al H al2 (L2.upd H2 a1 (.dK ys)) := by
        refine ⟨xt.pre, fun b o e nb => ?_, fun b hb nb => ?_, fun b hb => ?_, fun b o u mb e => ?_⟩
        · have nz := ne e nb
          rw [L2.upd_ne nz]
          exact xt.keep b o (by rw [L2.upd_ne nz]; exact e) nb
        · have q := xt.new b hb nb
          have nz : b ≠ a1 := fun z => nb (z ▸ md)
          rwa [L2.upd_ne nz] at q
        · have nz : b ≠ a1 := fun z => (a.hs.fen b hb).1 (z ▸ List.mem_iff_getElem?.mpr ⟨_, ed⟩)
          rw [L2.upd_ne nz, xt.fen b hb, L2.upd_ne nz]
        · have nz : b ≠ a1 := fun z => by rw [z, hd] at e; cases e
          rw [L2.upd_ne nz]
          exact xt.frz b o u mb (by rw [L2.upd_ne nz]; exact e)
      have su : HSim X.K G al2 (L2.upd H2 a1 (.dK ys)) (setAt h2 m (.dic kvs)) := s2.set (xt.get ed) ⟨ys, L2.upd_same, rd.mono xu⟩
      exact p2 al2 _ xu su v (rv.monoW (extW_set (xt.get ed)))
end
end Py

namespace Py
open PySem (Addr Value Obj Expr Pos Stmt)
def PostS (X : L2.Cx) (G : Gt) (xc : Option (Nat × Nat × List (Nat × W))) (W' : WX) (al : AL) (H : Hp) (D : L2.Ends) : Out → Prop
  | .nx ρ' h' => ∀ al' H' σ', Ext al H al' H' → At X G xc σ' H' al' ρ' h' → D.nx σ' H'
  | .rt w h' => ∀ al' H' v, Ext al H al' H' → HSim X.K G al' H' h' → Rep X.K H' al' v w → D.rt v H'
  | .ex c fs ρ' h' => ∀ al' H' σ' cls d, Ext al H al' H' → HSim X.K G al' H' h' → ESim X.K H' al' σ' ρ' → XRep X.K G H' al' cls d c fs → W' cls d σ' H'
  | .bad => False
section
variable {X : L2.Cx} {G : Gt} {xc : Option (Nat × Nat × List (Nat × W))} {W' : WX} {al al1 : AL} {H H1 : Hp} {D : L2.Ends} {σ : L2.St} {ρ : Env} {h : MH}
theorem PostS.ext (x : Ext al H al1 H1) {o : Out} (p : PostS X G xc W' al H D o) : PostS X G xc W' al1 H1 D o := by
  cases o with
  | nx ρ' h' => exact fun al' H' σ' y a => p al' H' σ' (x.trans y) a
  | rt w h' => exact fun al' H' v y s r => p al' H' v (x.trans y) s r
  | ex c fs ρ' h' => exact fun al' H' σ' cls d y s e r => p al' H' σ' cls d (x.trans y) s e r
  | bad => exact p
def tS (X : L2.Cx) (G : Gt) (xc : Option (Nat × Nat × List (Nat × W))) (W' : WX) (m : Env → MH → Out) : L2.TS := fun D σ H => ∃ al ρ h, At X G xc σ H al ρ h ∧ PostS X G xc W' al H D (m ρ h)
def SS (X : L2.Cx) (G : Gt) (xc : Option (Nat × Nat × List (Nat × W))) (st : Stmt) (m : Env → MH → Out) : Prop := ∀ W', L2N.Takes X W' → L2.PS X st (tS X G xc W' m)
def SSs (X : L2.Cx) (G : Gt) (xc : Option (Nat × Nat × List (Nat × W))) (st : List Stmt) (m : Env → MH → Out) : Prop := ∀ W', L2N.Takes X W' → L2.PSs X st (tS X G xc W' m)
theorem rd_stm {m : EM W} {F : W → MH → Out} {Q : HV → Hp → Prop} (a : At X G xc σ H al ρ h) (p : PostS X G xc W' al H D (stm (m ρ h) ρ F))
    (k : ∀ al1 H1 w h1 v, Ext al H al1 H1 → At X G xc σ H1 al1 ρ h1 → Rep X.K H1 al1 v w → PostS X G xc W' al1 H1 D (F w h1) → Q v H1) : rdE X G xc W' m σ H Q := by
  refine rd_of a ?_
  cases e : m ρ h with
  | ok w h1 =>
    rw [e] at p
    exact fun al' H' x s v r => k al' H' w h1 v x (a.next x s) r (PostS.ext x p)
  | exc c fs h1 =>
    rw [e] at p
    exact fun al' H' cls d x s r => p al' H' σ cls d x s (a.es.mono x) r
  | bad => rw [e] at p; exact p
theorem rd_stmA {m : EM (List W)} {F : List W → MH → Out} {Q : List HV → Hp → Prop} (a : At X G xc σ H al ρ h) (p : PostS X G xc W' al H D (stm (m ρ h) ρ F))
    (k : ∀ al1 H1 w h1 v, Ext al H al1 H1 → At X G xc σ H1 al1 ρ h1 → RepL X.K H1 al1 v w → PostS X G xc W' al1 H1 D (F w h1) → Q v H1) : rdA X G xc W' m σ H Q := by
  refine rd_ofA a ?_
  cases e : m ρ h with
  | ok w h1 =>
    rw [e] at p
    exact fun al' H' x s v r => k al' H' w h1 v x (a.next x s) r (PostS.ext x p)
  | exc c fs h1 =>
    rw [e] at p
    exact fun al' H' cls d x s r => p al' H' σ cls d x s (a.es.mono x) r
  | bad => rw [e] at p; exact p
theorem rd_stmT {m : EM Bool} {F : Bool → MH → Out} {Q : Bool → Hp → Prop} (a : At X G xc σ H al ρ h) (p : PostS X G xc W' al H D (stm (m ρ h) ρ F))
    (k : ∀ al1 H1 w h1, Ext al H al1 H1 → At X G xc σ H1 al1 ρ h1 → PostS X G xc W' al1 H1 D (F w h1) → Q w H1) : rdT X G xc W' m σ H Q := by
  refine rd_ofT a ?_
  cases e : m ρ h with
  | ok w h1 =>
    rw [e] at p
    exact fun al' H' x s => k al' H' w h1 x (a.next x s) (PostS.ext x p)
  | exc c fs h1 =>
    rw [e] at p
    exact fun al' H' cls d x s r => p al' H' σ cls d x s (a.es.mono x) r
  | bad => rw [e] at p; exact p
/-- the loop's source -/
theorem post_stm {β : Type} {r : Res β} {F : β → MH → Out} (a : At X G xc σ H al ρ h) (p : PostS X G xc W' al H D (stm r ρ F)) : PostE X.K G W' σ al H r fun al1 H1 w h1 => PostS X G xc W' al1 H1 D (F w h1) := by
  cases r with
  | ok w h1 => exact fun al' H' x s => PostS.ext x p
  | exc c fs h1 => exact fun al' H' cls d x s r => p al' H' σ cls d x s (a.es.mono x) r
  | bad => exact p
end
section
variable {X : L2.Cx} {G : Gt} {T : Tb} {k : Cxt} {pos p0 : Pos} {e e1 e2 : Expr} {x1 x2 : Ex} {st : Stmt} {sts : List Stmt} {a b : Py.St}
theorem ss_nev : SS X G k.xc st (run T .nev k) := fun W' tk => ⟨fun pins s σ H D I q => by
  obtain ⟨al, ρ, h, a, p⟩ := q
  exact p.elim⟩
theorem ss_pass : SS X G k.xc (.Pass pos) (run T .skip k) := fun W' tk => ps_imp L2.ps_pass fun D σ H q => by
  obtain ⟨al, ρ, h, a, p⟩ := q
  exact p al H σ .refl a
theorem ss_doc {x : PySem.Str} {j : Nat} : SS X G k.xc (.Expr (.Constant (.str x) j p0) pos) (run T .skip k) := fun W' tk => ps_imp L2.ps_doc fun D σ H q => by
  obtain ⟨al, ρ, h, a, p⟩ := q
  exact p al H σ .refl a
theorem ss_exp (h1 : SE X G k.xc e (ev T k x1)) (hs : PySem.swapsWith e none pos.line X.env = pure false) : SS X G k.xc (.Expr e pos) (run T (.exp x1) k) := fun W' tk => ps_imp (L2.ps_expr (h1 W' tk) hs) fun D σ H q => by
  obtain ⟨al, ρ, h, a, p⟩ := q
  simp only [run] at p
  exact rd_stm a p fun al1 H1 w h1 v x a1 r p1 => p1 al1 H1 σ .refl a1
theorem ss_ret (h1 : SE X G k.xc e (ev T k x1)) : SS X G k.xc (.Return (some e) pos) (run T (.ret x1) k) := fun W' tk => ps_imp (L2.ps_ret (h1 W' tk)) fun D σ H q => by
  obtain ⟨al, ρ, h, a, p⟩ := q
  simp only [run] at p
  exact rd_stm a p fun al1 H1 w h1 v x a1 r p1 => p1 al1 H1 v .refl a1.hs r
theorem ss_retN : SS X G k.xc (.Return none pos) (run T (.ret (.cst .non)) k) := fun W' tk => ps_imp L2.ps_retN fun D σ H q => by
  obtain ⟨al, ρ, h, a, p⟩ := q
  simp only [run, ev, stm] at p
  exact p al H .non .refl a.hs .non
theorem ss_if {c : Expr} {s1 s2 : List Stmt} (hc : ST X G k.xc c (evT T k x1)) (h1 : SSs X G k.xc s1 (run T a k)) (h2 : SSs X G k.xc s2 (run T b k)) : SS X G k.xc (.If c s1 s2 pos) (run T (.ife x1 a b) k) := fun W' tk => ps_imp (L2.ps_if (hc W' tk) (h1 W' tk) (h2 W' tk)) fun D σ H q => by
  obtain ⟨al, ρ, h, a', p⟩ := q
  simp only [run] at p
  refine rd_stmT a' p fun al1 H1 w h1 x a1 p1 => ?_
  cases w with
  | true => exact ⟨al1, ρ, h1, a1, by simpa using p1⟩
  | false => exact ⟨al1, ρ, h1, a1, by simpa using p1⟩
theorem sss_nil : SSs X G k.xc [] (run T .skip k) := fun W' tk => pss_imp L2.pss_nil fun D σ H q => by
  obtain ⟨al, ρ, h, a, p⟩ := q
  exact p al H σ .refl a
theorem sss_cons (h1 : SS X G k.xc st (run T a k)) (h2 : SSs X G k.xc sts (run T b k)) : SSs X G k.xc (st :: sts) (run T (.seq a b) k) := fun W' tk => pss_imp (L2.pss_cons (h1 W' tk) (h2 W' tk)) fun D σ H q => by
  obtain ⟨al, ρ, h, a', p⟩ := q
  simp only [run] at p
  refine ⟨al, ρ, h, a', ?_⟩
  cases e : run T a k ρ h with
  | nx ρ1 h1 =>
    rw [e] at p
    exact fun al' H' σ' x a1 => ⟨al', ρ1, h1, a1, PostS.ext x p⟩
  | rt w h1 => rw [e] at p; exact p
  | ex c fs ρ1 h1 => rw [e] at p; exact p
  | bad => rw [e] at p; exact p
def SG (X : L2.Cx) (G : Gt) (xc : Option (Nat × Nat × List (Nat × W))) (tg : Expr) (m : W → Env → MH → Res Env) : Prop :=
  L2.PG X tg fun v σ H Q => ∃ al ρ h w ρ' h', At X G xc σ H al ρ h ∧ Rep X.K H al v w ∧ m w ρ h = .ok ρ' h' ∧ ∀ al' H' σ', Ext al H al' H' → At X G xc σ' H' al' ρ' h' → Q σ' H'
def SGs (X : L2.Cx) (G : Gt) (xc : Option (Nat × Nat × List (Nat × W))) (tgs : List Expr) (m : List W → Env → MH → Res Env) : Prop :=
  L2.PGs X tgs fun vs σ H Q => ∃ al ρ h ws ρ' h', At X G xc σ H al ρ h ∧ RepL X.K H al vs ws ∧ m ws ρ h = .ok ρ' h' ∧ ∀ al' H' σ', Ext al H al' H' → At X G xc σ' H' al' ρ' h' → Q σ' H'
theorem pg_imp {t t' : L2.TG} {tg : Expr} (h : L2.PG X tg t) (f : ∀ v σ H Q, t' v σ H Q → t v σ H Q) : L2.PG X tg t' := ⟨fun pins s σ H v u Q I r q => h.run pins s σ H v u Q I r (f _ _ _ _ q)⟩
theorem pgs_imp {t t' : L2.TGs} {tgs : List Expr} (h : L2.PGs X tgs t) (f : ∀ v σ H Q, t' v σ H Q → t v σ H Q) : L2.PGs X tgs t' := ⟨fun pins s σ H v u Q I r q => h.run pins s σ H v u Q I r (f _ _ _ _ q)⟩
theorem xsim_set {xc : Option (Nat × Nat × List (Nat × W))} {σ : L2.St} {H : Hp} {al : AL} {i : Nat} {v : HV} (x : XSim X G H al σ xc) (hi : ∀ j c fs, xc = some (j, c, fs) → i ≠ j) : XSim X G H al (σ.set i (some v)) xc := by
  match xc, x, hi with
  | none, _, _ => trivial
  | some (j, c, fs), ⟨a, oe, vs, h1, h2, h3, h5, h4⟩, hi => exact ⟨a, oe, vs, h1, by rw [List.getElem?_set_ne (hi j c fs rfl)]; exact h2, h3, h5, h4⟩
theorem at_set {xc : Option (Nat × Nat × List (Nat × W))} {σ : L2.St} {H : Hp} {al : AL} {ρ : Env} {h : MH} {i : Nat} {v : HV} {w : W} (a : At X G xc σ H al ρ h) (r : Rep X.K H al v w) (hi : ∀ j c fs, xc = some (j, c, fs) → i ≠ j) : At X G xc (σ.set i (some v)) H al (ρ.set i (some w)) h :=
  ⟨a.hs, esim_set a.es r, xsim_set a.xs hi⟩
theorem asn_nm {i : Nat} {w : W} {ρ ρ' : Env} {h h' : MH} (e : asn T k (.nm i) w ρ h = .ok ρ' h') : ρ' = ρ.set i (some w) ∧ h' = h ∧ ∀ j c fs, k.xc = some (j, c, fs) → i ≠ j := by
  simp only [asn] at e
  cases hx : k.xc with
  | none => rw [hx] at e; cases e; exact ⟨rfl, rfl, fun _ _ _ z => by cases z⟩
  | some q =>
    obtain ⟨j, c, fs⟩ := q
    rw [hx] at e
    simp only at e
    split at e
    · cases e
    · rename_i hne
      cases e
      exact ⟨rfl, rfl, fun j' c' fs' z => by cases z; exact hne⟩
theorem sg_name {i : Nat} {x : PySem.Str} (hp : L2.PG X (.Name x pos) (L2.gName i)) : SG X G k.xc (.Name x pos) (asn T k (.nm i)) := pg_imp hp fun v σ H Q q => by
  obtain ⟨al, ρ, h, w, ρ', h', a, r, e, q⟩ := q
  obtain ⟨rfl, rfl, hne⟩ := asn_nm e
  exact q al H _ .refl (at_set a r hne)
open PySem PySem.Spec PyProof.Rows in
/-- o.f = v, by values -/
theorem pg_fldR {o : Expr} {f : PySem.Str} {to : L2.TE} (ho : L2.PE X o to) : L2.PG X (.Attribute o f pos) fun v σ H Q => to σ H fun x H1 => ∃ a C dx fs, x = .ref a ∧ H1 a = some (.ins C dx fs) ∧ L2.Cls X.K C ∧ L2.NoAttr X.K C f ∧ fs.length < 1000 ∧ Q σ (L2.upd H1 a (.ins C dx (L2.putF f v fs))) := by
  refine ⟨fun pins s σ H v u Q I r h => ?_⟩
  rw [assign_Attribute]
  refine wpAny_bind (wpAny_holding (L2.thn (ho.run pins s σ H _ I h) fun ov s1 ⟨x, H1, I1, rx, a, C, dx, fs, ex, ea, c, n, l, q⟩ => ?_))
  subst ex
  obtain rfl : ov = Value.ref a := rx
  refine wpAny_bind (wpAny_standAt (wpAny_bind (wpAny_holding (L2.setattr_ok I1 ea c n l r fun s2 I2 => ?_))))
  exact wpAny_release ⟨σ, _, I2, q⟩
/-- where the store of what is worked out stands, what it was worked out of -/
theorem rd_ok {σ : L2.St} {H : Hp} {al : AL} {ρ : Env} {h : MH} {m : EM W} {β : Type} {f : W → MH → Res β} {y : β} {h' : MH} {Q : HV → Hp → Prop} (a : At X G k.xc σ H al ρ h) (e : (m ρ h).bind f = .ok y h')
    (kk : ∀ al1 H1 w h1 v, Ext al H al1 H1 → At X G k.xc σ H1 al1 ρ h1 → Rep X.K H1 al1 v w → f w h1 = .ok y h' → Q v H1) : rdE X G k.xc NoX m σ H Q := by
  refine rd_of a ?_
  cases em : m ρ h with
  | ok w h1 =>
    rw [em, Res.bind_ok] at e
    exact fun al' H' x s v r => kk al' H' w h1 v x (a.next x s) r e
  | exc => rw [em] at e; cases e
  | bad => rw [em] at e; cases e
theorem sg_fld {o : Expr} {f : Nat} {nm : PySem.Str} {x : Ex} (F : ClsF X.K G T) (hn : nm = G.fnm f) (ho : SE X G k.xc o (ev T k x)) : SG X G k.xc (.Attribute o nm pos) (asn T k (.at x f)) := pg_imp (pg_fldR (ho NoX takes_no)) fun v σ H Q q => by
  obtain ⟨al, ρ, h, w, ρ', h', a, r, e, q⟩ := q
  simp only [asn] at e
  refine rd_ok a e fun al1 H1 w1 h1 u x1 a1 r1 e1 => ?_
  split at e1
  · rename_i n
    split at e1
    · rename_i c fs eh
      split at e1
      · rename_i hc
        cases e1
        simp only [Bool.and_eq_true, decide_eq_true_eq] at hc
        cases r1 with
        | @ref pa n q0 =>
          obtain ⟨C, dx, gs, e0, e1, nx, rf⟩ := a1.hs.obj _ _ _ q0 eh
          have hx : Ext al1 H1 al1 (L2.upd H1 pa (.ins C dx (L2.putF (G.fnm f) v gs))) := ext_set a1.hs q0 e1
          have r2 := (r.mono x1).mono hx
          refine ⟨pa, C, dx, gs, rfl, e1, F.cls c C e0, by rw [hn]; exact F.noat c C f e0 (by simpa using hc.1), by have := rf.rep.length; omega, ?_⟩
          rw [hn]
          refine q al1 _ σ (x1.trans hx) (a1.next hx (a1.hs.set q0 ⟨C, dx, _, e0, L2.upd_same, ?_, (rf.mono hx).put f r2 (F.fok _ _ hc.1)⟩))
          have ne : dx ≠ pa := fun z => nx.2 (z ▸ AL.mem_at q0)
          exact ⟨by rw [L2.upd_ne ne]; exact nx.1, nx.2⟩
      · cases e1
    · cases e1
  · cases e1
/-- o[i] = v of a list or of a dict -/
def rSetS : L2.TSet := fun o i v H Q => L2.rSetL o i v H Q ∨ L2.rSetD o i v H Q
theorem set_both (hu : X.A.units + 1 < PySem.cLine) : L2.PSet X rSetS := fun pins s σ H o i v ov iv u Q I ro ri rv h => h.elim (fun h => L2.set_list pins s σ H o i v ov iv u Q I ro ri rv h) fun h => L2.set_dict hu pins s σ H o i v ov iv u Q I ro ri rv h
theorem sg_sub {o i : Expr} {x y : Ex} (hu : X.A.units + 1 < PySem.cLine) (ho : SE X G k.xc o (ev T k x)) (hi : SE X G k.xc i (ev T k y))
    (ha : ∀ v, PySem.assign (.Subscript o i pos) X.env v = (do
      let ov ← PySem.holding [v] (PySem.eval o X.env)
      let iv ← PySem.holding [v, ov] (PySem.eval i X.env)
      PySem.standAt pos
      PySem.holding [v, ov, iv] (PySem.setItem ov iv v)
      PySem.release [v, ov, iv] [])) : SG X G k.xc (.Subscript o i pos) (asn T k (.sub x y)) := pg_imp (L2.pg_sub (ho NoX takes_no) (hi NoX takes_no) (set_both hu) ha) fun v σ H Q q => by
  obtain ⟨al, ρ, h, w, ρ', h', a, r, e, q⟩ := q
  simp only [asn] at e
  refine rd_ok a e fun al1 H1 w1 h1 u x1 a1 r1 e1 => ?_
  refine rd_ok a1 e1 fun al2 H2 w2 h2 u2 x2 a2 r2 e2 => ?_
  have r1 := r1.mono x2
  split at e2
  case h_2 => cases e2
  rename_i n
  cases r1 with
  | @ref pa n q0 =>
    split at e2
    · rename_i xs kk eh
      obtain ⟨vs, ev, la⟩ := a2.hs.obj _ _ _ q0 eh
      split at e2
      · rename_i j ej
        cases e2
        cases r2
        refine .inl ⟨pa, vs, kk, j, rfl, rfl, ev, by rw [← ixN_eq, la.length]; exact ej, ?_⟩
        have hx : Ext al2 H2 al2 (L2.upd H2 pa (.lst (vs.set j v))) := ext_set a2.hs q0 ev
        exact q al2 _ σ ((x1.trans x2).trans hx) (a2.next hx (a2.hs.set q0 ⟨_, L2.upd_same, RepL.set (((r.mono x1).mono x2).mono hx) j (la.mono hx)⟩))
      · cases e2
    · rename_i kvs kk eh
      obtain ⟨ys, ey, rd⟩ := a2.hs.obj _ _ _ q0 eh
      split at e2
      · rename_i kq ek
        split at e2
        · rename_i hl
          cases e2
          have hkv := keyOf_rep r2 ek
          refine .inr ⟨pa, _, rfl, hkv ▸ L2.DPut.k ey (by rw [Fa2.length rd, ← lim_eq]; exact hl), ?_⟩
          have hx : Ext al2 H2 al2 (L2.upd H2 pa (.dK (L2.putK ys (keyS kq) v))) := ext_set a2.hs q0 ey
          exact q al2 _ σ ((x1.trans x2).trans hx) (a2.next hx (a2.hs.set q0 ⟨_, L2.upd_same, (rd.mono hx).put kq (((r.mono x1).mono x2).mono hx)⟩))
        · cases e2
      · cases e2
    · cases e2
theorem sgs_nil : SGs X G k.xc [] (asns T k .nil) := pgs_imp L2.pgs_nil fun v σ H Q q => by
  obtain ⟨al, ρ, h, ws, ρ', h', a, r, e, q⟩ := q
  cases r with
  | nil =>
    simp only [asns] at e
    cases e
    exact ⟨rfl, q al H σ .refl a⟩
  | cons => simp only [asns] at e; cases e
theorem sgs_cons {tg : Expr} {tgs : List Expr} {t ts : Tg} (h1 : SG X G k.xc tg (asn T k t)) (h2 : SGs X G k.xc tgs (asns T k ts)) (hs : (PySem.assignEach (tg :: tgs) X.env).map (·.2) = PySem.assign tg X.env :: (PySem.assignEach tgs X.env).map (·.2)) : SGs X G k.xc (tg :: tgs) (asns T k (.cons t ts)) := pgs_imp (L2.pgs_cons h1 h2 hs) fun v σ H Q q => by
  obtain ⟨al, ρ, h, ws, ρ', h', a, r, e, q⟩ := q
  cases r with
  | nil => simp only [asns] at e; cases e
  | cons r rr =>
    simp only [asns] at e
    rename_i v1 w1 vs1 ws1
    cases e1 : asn T k t w1 ρ h with
    | ok ρ1 h1 =>
      rw [e1, Res.bind_ok] at e
      exact ⟨v1, vs1, rfl, al, ρ, h, w1, ρ1, h1, a, r, e1, fun al1 H1 σ1 x1 a1 => ⟨al1, ρ1, h1, ws1, ρ', h', a1, rr.mono x1, e, fun al2 H2 σ2 x2 a2 => q al2 H2 σ2 (x1.trans x2) a2⟩⟩
    | exc => rw [e1] at e; cases e
    | bad => rw [e1] at e; cases e
theorem asns_len {ts : Tg} : ∀ {ws : List W} {ρ ρ' : Env} {h h' : MH}, asns T k ts ws ρ h = .ok ρ' h' → ∀ n, (∀ ws ρ h ρ' h', asns T k ts ws ρ h = .ok ρ' h' → ws.length = n) → ws.length = n := fun e n f => f _ _ _ _ _ e
theorem sg_tup {es : List Expr} {j n : Nat} {ts : Tg} (hc : k.calm = true → X.calm = true) (h : SGs X G k.xc es (asns T k ts)) (hl : ∀ ws ρ h ρ' h', asns T k ts ws ρ h = .ok ρ' h' → ws.length = n) (hn : (PySem.assignEach es X.env).length = n) (hst : (PySem.assignEach es X.env).findIdx? (·.1) = none) : SG X G k.xc (.Tuple es j pos) (asn T k (.tup ts)) := by
  cases hk : k.calm with
  | false => exact ⟨fun pins s σ H v u Q I r q => by
      obtain ⟨al, ρ, h, w, ρ', h', a, r, e, q⟩ := q
      simp [asn, hk] at e⟩
  | true =>
      refine pg_imp (L2.pg_tup (hc hk) h hn hst) fun v σ H Q q => ?_
      obtain ⟨al, ρ, h, w, ρ', h', a, r, e, q⟩ := q
      simp only [asn, hk, if_true] at e
      split at e
      · cases r with
        | tup sa la =>
          exact ⟨_, _, rfl, sa.sq, by rw [la.length]; exact hl _ _ _ _ _ e, al, ρ, h, _, ρ', h', a, la, e, q⟩
      · cases e
theorem ss_asg {tg : Expr} {t : Tg} {x : Ex} (he : SE X G k.xc e (ev T k x)) (hg : SG X G k.xc tg (asn T k t)) (hs : PySem.swapsWithSole [tg] e pos.line X.env = pure false) (hw : PySem.swappedStores [tg] e X.env = pure none)
    (h1 : (PySem.assignEach [tg] X.env).map (·.2) = [PySem.assign tg X.env]) : SS X G k.xc (.Assign [tg] e pos) (run T (.asg t x) k) := fun W' tk => ps_imp (L2.ps_asg (he W' tk) hg hs hw h1) fun D σ H q => by
  obtain ⟨al, ρ, h, a, p⟩ := q
  simp only [run] at p
  refine rd_stm a p fun al1 H1 w h1 v x a1 r p1 => ?_
  cases e1 : asn T k t w ρ h1 with
  | ok ρ1 h2 =>
    rw [e1] at p1
    exact ⟨al1, ρ, h1, w, ρ1, h2, a1, r, e1, p1⟩
  | exc => rw [e1] at p1; exact p1.elim
  | bad => rw [e1] at p1; exact p1.elim
/-- name = [..] -/
theorem ss_lc {i : Nat} {z y : PySem.Str} {pz py spos : Pos} {iter elt : Expr} {ifs : List Expr} {scope : PySem.Scope} {own : List (PySem.Str × Nat)} {ws : List Nat} {ii : Nat} {it c x : Ex} (F : CompF X G T k y py scope ws ii iter ifs elt it c x own)
    (hz : X.N[i]? = some z) (hzl : X.env.scope.names.lookup z = some .local) (hsw : PySem.swapsWith (.ListComp elt [⟨.Name y py, iter, ifs, 0⟩] scope pos) (some (.Name z pz)) spos.line X.env = pure true) :
    SS X G k.xc (.Assign [.Name z pz] (.ListComp elt [⟨.Name y py, iter, ifs, 0⟩] scope pos) spos) (run T (.asg (.nm i) (.comp ii ws it c x)) k) := fun W' tk => by
  cases hc : k.calm with
  | false => exact ⟨fun pins s σ H D I q => by
      obtain ⟨al, ρ, h, a, p⟩ := q
      simp [run, ev, hc, stm, PostS] at p⟩
  | true =>
    obtain ⟨wi, hpi, hwi⟩ := F.src W' tk
    have hx := calm_none hc
    have ht := F.test hc
    have he := F.elts hc
    rw [hx] at ht he
    refine ps_imp (L2.ps_setLc (F.calm hc) F.nd hz hzl hsw hpi F.ok (tt := rdT X G none NoX (evT T k c)) (te := rdE X G none NoX (ev T k x)) F.tg (fun s H C cl fp => ht s H C cl fp NoX takes_no) (fun s H C cl fp => he s H C cl fp NoX takes_no) F.plain) fun D σ H q => ?_
    obtain ⟨al, ρ, h, a, p⟩ := q
    simp only [run] at p
    refine lc_of F hc hwi (rd_stm a p fun al1 H1 w h1 v x a1 r p1 => ?_)
    simp only [asn, hx, sto] at p1
    exact p1 al1 H1 _ .refl (at_set (by rw [hx] at a1; exact a1) r fun j c fs z => by cases z)
end
end Py

namespace Py
open PySem (Addr Value Obj Expr Pos Stmt)
section
variable {X : L2.Cx} {G : Gt} {T : Tb} {k : Cxt} {pos p0 : Pos} {e e1 e2 e3 : Expr} {as : Ex} {a b : Py.St}
theorem calm_of_none (h : k.xc = none) : k.calm = true := by rw [Cxt.calm, h]
theorem par_calm {k : Cxt} (h : k.calm = true) {is : List Nat} : parOk k is = true := by
  unfold parOk
  rw [calm_none h]
theorem ss_par2 {i j : Nat} {x y : PySem.Str} {px py pt : Pos} {kt k2 : Nat} {pt2 : Pos} (hk : k.calm = true) (hc : k.calm = true → X.calm = true) (hN : X.N.Nodup) (hi : X.N[i]? = some x) (hj : X.N[j]? = some y) (hij : i ≠ j)
    (hx : X.env.scope.names.lookup x = some .local) (hy : X.env.scope.names.lookup y = some .local) (ha : SA X G k.xc [e1, e2] (evs T k as))
    (hw : PySem.swappedStores [.Tuple [.Name x px, .Name y py] kt pt] (.Tuple [e1, e2] k2 pt2) X.env = pure (some [x, y]))
    (hs : PySem.swapsWithSole [.Tuple [.Name x px, .Name y py] kt pt] (.Tuple [e1, e2] k2 pt2) pos.line X.env = pure false)  :
    SS X G k.xc (.Assign [.Tuple [.Name x px, .Name y py] kt pt] (.Tuple [e1, e2] k2 pt2) pos) (run T (.par [i, j] as) k) := fun W' tk => by
  refine ps_imp (L2.ps_par (hc hk) hN hi hj hij hx hy (ha W' tk) hw hs) fun D σ H q => ?_
  obtain ⟨al, ρ, h, a, p⟩ := q
  simp only [run, par_calm hk, if_true] at p
  refine rd_stmA a p fun al1 H1 ws h1 vs x1 a1 r p1 => ?_
  split at p1
  · rename_i hl
    have nx := calm_none hk
    rw [nx] at a1
    cases r with
    | nil => simp at hl
    | cons r1 r =>
      cases r with
      | nil => simp at hl
      | cons r2 r =>
        cases r with
        | nil =>
          refine ⟨_, _, rfl, p1 al1 H1 _ .refl ?_⟩
          rw [nx]
          exact at_set (at_set a1 r1 fun _ _ _ z => by cases z) r2 fun _ _ _ z => by cases z
        | cons => simp at hl
  · exact p1.elim
theorem ss_par3 {i j l : Nat} {x y z : PySem.Str} {px py pz pt : Pos} {kt k2 : Nat} {pt2 : Pos} (hk : k.calm = true) (hc : k.calm = true → X.calm = true) (hN : X.N.Nodup) (hi : X.N[i]? = some x) (hj : X.N[j]? = some y) (hl : X.N[l]? = some z) (hij : i ≠ j) (hil : i ≠ l) (hjl : j ≠ l)
    (hx : X.env.scope.names.lookup x = some .local) (hy : X.env.scope.names.lookup y = some .local) (hz : X.env.scope.names.lookup z = some .local) (ha : SA X G k.xc [e1, e2, e3] (evs T k as))
    (hw : PySem.swappedStores [.Tuple [.Name x px, .Name y py, .Name z pz] kt pt] (.Tuple [e1, e2, e3] k2 pt2) X.env = pure (some [x, y, z]))
    (hs : PySem.swapsWithSole [.Tuple [.Name x px, .Name y py, .Name z pz] kt pt] (.Tuple [e1, e2, e3] k2 pt2) pos.line X.env = pure false)  :
    SS X G k.xc (.Assign [.Tuple [.Name x px, .Name y py, .Name z pz] kt pt] (.Tuple [e1, e2, e3] k2 pt2) pos) (run T (.par [i, j, l] as) k) := fun W' tk => by
  refine ps_imp (L2.ps_par3 (hc hk) hN hi hj hl hij hil hjl hx hy hz (ha W' tk) hw hs) fun D σ H q => ?_
  obtain ⟨al, ρ, h, a, p⟩ := q
  simp only [run, par_calm hk, if_true] at p
  refine rd_stmA a p fun al1 H1 ws h1 vs x1 a1 r p1 => ?_
  split at p1
  · rename_i hl
    have nx := calm_none hk
    rw [nx] at a1
    cases r with
    | nil => simp at hl
    | cons r1 r =>
      cases r with
      | nil => simp at hl
      | cons r2 r =>
        cases r with
        | nil => simp at hl
        | cons r3 r =>
          cases r with
          | nil =>
            refine ⟨_, _, _, rfl, p1 al1 H1 _ .refl ?_⟩
            rw [nx]
            exact at_set (at_set (at_set a1 r1 fun _ _ _ z => by cases z) r2 fun _ _ _ z => by cases z) r3 fun _ _ _ z => by cases z
          | cons => simp at hl
  · exact p1.elim
theorem ss_for {tg iter : Expr} {t : Tg} {it : Ex} {body : List Stmt} (hp : k.calm = true → PySem.PassesOwn (PySem.model X.prog X.w) X.A X.env X.xe) (hc : k.calm = true → X.calm = true) (hi : SI X G k.xc tg iter (evi T k it)) (hg : SG X G k.xc tg (asn T k t)) (hb : SSs X G k.xc body (run T b k))
    (hs : ∀ x, PySem.foldedSetIterable iter X.env x = pure x) : SS X G k.xc (.For tg iter body [] pos) (run T (.forr t it b) k) := fun W' tk => by
  cases hk : k.calm with
  | false => exact ⟨fun pins s σ H D I q => by
      obtain ⟨al, ρ, h, a, p⟩ := q
      simp [run, hk, PostS] at p⟩
  | true =>
    obtain ⟨wi, hpi, hwi⟩ := hi W' tk
    refine ps_imp (L2.ps_for (hp hk) (hc hk) hpi hg (hb W' tk) hs) fun D σ H q => ?_
    obtain ⟨al, ρ, h, a, p⟩ := q
    simp only [run, hk, if_true] at p
    refine hwi _ _ _ ⟨al, ρ, h, a, (post_stm a p).imp fun al1 H1 xs h1 x1 s1 p1 J hJ => ?_⟩
    obtain ⟨vx, rx, hJ⟩ := hJ
    have hlen := rx.length
    refine ⟨fun i m σ' H' => m = xs.length - i ∧ i ≤ xs.length ∧ ∃ al' ρ' h', Ext al1 H1 al' H' ∧ At X G k.xc σ' H' al' ρ' h' ∧ PostS X G k.xc W' al' H' D (forL (asn T k t) (run T b k) (xs.drop i) ρ' h'), ⟨xs.length, by simp, Nat.zero_le _, al1, ρ, h1, .refl, a.next x1 s1, p1⟩, ?_⟩
    rintro i m σ' H' ⟨rfl, hle, al', ρ', h', x2, a2, p2⟩
    obtain ⟨j1, j2, j3⟩ := hJ al' H' x2
    by_cases hlt : i < xs.length
    · refine .inr ⟨j1 i (by rw [hlen]; exact hlt), fun σ' H' => ∃ al' ρ' h', Ext al1 H1 al' H' ∧ At X G k.xc σ' H' al' ρ' h' ∧ PostS X G k.xc W' al' H' D (forL (asn T k t) (run T b k) (xs.drop (i + 1)) ρ' h'), fun σ' H' q => ⟨xs.length - (i + 1), by omega, rfl, hlt, q⟩, fun v H'' y => ?_⟩
      obtain ⟨rfl, ev'⟩ := j2 i v H'' (by rw [hlen]; exact hlt) y
      have ew : xs[i]? = some xs[i] := by simp [hlt]
      have ed : xs.drop i = xs[i] :: xs.drop (i + 1) := List.drop_eq_getElem_cons hlt
      generalize hw : xs[i] = w at ew ed
      obtain ⟨v2, ev2, r⟩ := rx.get ew
      rw [ev'] at ev2
      cases ev2
      rw [ed] at p2
      simp only [forL] at p2
      cases e1 : asn T k t w ρ' h' with
      | exc => rw [e1] at p2; exact p2.elim
      | bad => rw [e1] at p2; exact p2.elim
      | ok ρ1 h2 =>
        rw [e1] at p2
        simp only at p2
        refine ⟨al', ρ', h', w, ρ1, h2, a2, r.mono x2, e1, fun al3 H3 σ3 x3 a3 => ⟨al3, ρ1, h2, a3, ?_⟩⟩
        have p3 := PostS.ext x3 p2
        cases e2 : run T b k ρ1 h2 with
        | nx ρ2 h3 =>
          rw [e2] at p3
          exact fun al4 H4 σ4 x4 a4 => ⟨al4, ρ2, h3, (x2.trans x3).trans x4, a4, PostS.ext x4 p3⟩
        | rt w h3 => rw [e2] at p3; exact p3
        | ex c fs ρ2 h3 => rw [e2] at p3; exact p3
        | bad => rw [e2] at p3; exact p3
    · have e : i = xs.length := Nat.le_antisymm hle (Nat.not_lt.mp hlt)
      refine .inl ⟨j3 i (by rw [hlen]; exact Nat.not_lt.mp hlt), ?_⟩
      rw [e, List.drop_length] at p2
      exact p2 al' H' σ' .refl a2
/-- the augmented field -/
theorem ss_augf {o : Expr} {op : PySem.Operator} {b : Bop} {f : Nat} {nm : PySem.Str} {x y : Ex} {tpos : Pos} (F : ClsF X.K G T) (hn : nm = G.fnm f) (hop : (op = .Add ∧ b = .add) ∨ (op = .Sub ∧ b = .sub)) (ho : SE X G k.xc o (ev T k x)) (he : SE X G k.xc e (ev T k y)) :
    SS X G k.xc (.AugAssign (.Attribute o nm tpos) op e pos) (run T (.augf x f b y) k) := fun W' tk => by
  have key : ∃ rd, L2.InOp X op rd ∧ ∀ i j z H Q, augO b i j = some z → Q (L2.V.int z) H → rd (.int i) (.int j) H Q := by
    rcases hop with ⟨rfl, rfl⟩ | ⟨rfl, rfl⟩
    · exact ⟨_, L2.in_add, fun i j z H Q e q => by cases e; exact ⟨i, j, rfl, rfl, q⟩⟩
    · exact ⟨_, L2.in_sub, fun i j z H Q e q => by cases e; exact ⟨i, j, rfl, rfl, q⟩⟩
  obtain ⟨rd, hin, hrd⟩ := key
  refine ps_imp (L2.ps_fldaug (ho W' tk) (he W' tk) hin) fun D σ H q => ?_
  obtain ⟨al, ρ, h, a, p⟩ := q
  simp only [run] at p
  refine rd_stm a p fun al1 H1 w h1 v x1 a1 r p1 => ?_
  split at p1
  case h_2 => exact p1.elim
  split at p1
  case h_2 => exact p1.elim
  rename_i n _ c fs eh
  split at p1
  case h_2 => exact p1.elim
  rename_i i hc ef
  cases r with
  | @ref pa _ q0 =>
    obtain ⟨C, dx, gs, e0, e1, nx, rf⟩ := a1.hs.obj _ _ _ q0 eh
    have hg := rf.rep.get f
    rw [ef] at hg
    obtain ⟨u, elk, ru⟩ := hg
    cases ru
    refine ⟨pa, C, dx, gs, _, rfl, e1, F.cls c C e0, by rw [hn]; exact F.noat c C f e0 (by simpa using hc), by rw [hn]; exact elk, ?_⟩
    refine rd_stm a1 p1 fun al2 H2 w2 h2 v2 x2 a2 r2 p2 => ?_
    split at p2
    case h_2 => exact p2.elim
    rename_i j c2 fs2 eh2
    split at p2
    case h_2 => exact p2.elim
    rename_i z ez
    split at p2
    case isFalse => exact p2.elim
    rename_i hh
    obtain ⟨rfl, hl⟩ := hh
    cases r2
    refine hrd i j z H2 _ ez ?_
    obtain ⟨C2, dx2, gs2, e2, e3, nx2, rf2⟩ := a2.hs.obj _ _ _ (x2.get q0) eh2
    rw [e0] at e2
    cases e2
    refine ⟨dx2, gs2, e3, by have := rf2.rep.length; omega, ?_⟩
    rw [hn]
    have q2 := x2.get q0
    have hx : Ext al2 H2 al2 (L2.upd H2 pa (.ins C dx2 (L2.putF (G.fnm f) (.int z) gs2))) := ext_set a2.hs q2 e3
    have ne : dx2 ≠ pa := fun z => nx2.2 (z ▸ AL.mem_at q2)
    exact p2 al2 _ σ hx (a2.next hx (a2.hs.set q2 ⟨C, dx2, _, e0, L2.upd_same, ⟨by rw [L2.upd_ne ne]; exact nx2.1, nx2.2⟩, (rf2.mono hx).put f (.int z) (F.fok _ _ hc)⟩))
theorem ss_whl {c : Expr} {x : Ex} {body : List Stmt} {m : Nat} (hp : k.calm = true → PySem.PassesOwn (PySem.model X.prog X.w) X.A X.env X.xe) (hc : ST X G k.xc c (evT T k x)) (hb : SSs X G k.xc body (run T b k)) : SS X G k.xc (.While c body [] pos) (run T (.whl m x b) k) := fun W' tk => by
  by_cases hk : k.calm = true
  case neg => exact ⟨fun pins s σ H D I q => by
      obtain ⟨al, ρ, h, a, p⟩ := q
      simp [run, hk, PostS] at p⟩
  refine ps_imp (L2.ps_while (hp hk) (hc W' tk) (hb W' tk)) fun D σ H q => ?_
  obtain ⟨al, ρ, h, a, p⟩ := q
  simp only [run, hk, if_true] at p
  refine ⟨fun m σ H => ∃ al ρ h, At X G k.xc σ H al ρ h ∧ PostS X G k.xc W' al H D (whlL (evT T k x) (run T b k) m ρ h), ⟨m, al, ρ, h, a, p⟩, ?_⟩
  rintro m σ H ⟨al, ρ, h, a, p⟩
  cases m with
  | zero => exact p.elim
  | succ m =>
    have e : whlL (evT T k x) (run T b k) (m + 1) ρ h = stm (evT T k x ρ h) ρ fun t h1 => if t = true then (match run T b k ρ h1 with
      | .nx ρ2 h2 => whlL (evT T k x) (run T b k) m ρ2 h2
      | o => o) else .nx ρ h1 := by
      simp only [whlL]
      cases evT T k x ρ h with
      | ok t h1 => cases t <;> rfl
      | exc => rfl
      | bad => rfl
    rw [e] at p
    refine rd_stmT a p fun al1 H1 t h1 x1 a1 p1 => ?_
    cases t with
    | false => exact p1 al1 H1 σ .refl a1
    | true =>
      simp only [if_true] at p1 ⊢
      refine ⟨fun σ' H' => ∃ al ρ h, At X G k.xc σ' H' al ρ h ∧ PostS X G k.xc W' al H' D (whlL (evT T k x) (run T b k) m ρ h), fun σ' H' q => ⟨m, Nat.lt_succ_self m, q⟩, al1, ρ, h1, a1, ?_⟩
      cases e2 : run T b k ρ h1 with
      | nx ρ2 h2 =>
        rw [e2] at p1
        exact fun al2 H2 σ2 x2 a2 => ⟨al2, ρ2, h2, a2, PostS.ext x2 p1⟩
      | rt w h2 => rw [e2] at p1; exact p1
      | ex c fs ρ2 h2 => rw [e2] at p1; exact p1
      | bad => rw [e2] at p1; exact p1
end
end Py

namespace Py
open PySem (Addr Value Obj Expr Pos Stmt)
/-- such a class, as it stands -/
structure ExcF (X : L2.Cx) (G : Gt) (T : Tb) (c : Nat) (C : Addr) (x : PySem.Str) : Prop where
  cls : G.xcl c = some C
  isx : PySem.W.excIn X.K C He.veBase "ValueError.__new__" = true
  keep : PySem.W.keepIn X.K (.ref C) = true
  sub : PySem.W.subIn X.K (.ref C) (.type "BaseException") = some true
  ty : PySem.W.typeIn X.K (.ref C) = some (.type "type")
  glo : X.mg x = some (.ref C)
  exf : T.exf c = some (0, [])
section
open PySem PySem.Spec PyProof.Rows
variable {X : L2.Cx} {G : Gt} {T : Tb} {k : Cxt}
theorem pmk_own0 {C : Addr} {x : PySem.Str} {p pos : Pos} (q : PySem.W.excIn X.K C He.veBase "ValueError.__new__" = true) (gC : X.mg x = some (.ref C)) (kC : PySem.W.keepIn X.K (.ref C) = true) (r : L2.Raises X (.ref C)) (hg : L2.Gl X x)
    (hdb : (x == ("__debug__" : PySem.Str)) = false) : L2N.PMk X (.Call (.Name x p) [] [] pos) (fun _ H Q => Q (.ref C) none H) := by
  intro pins s σ H Q I h
  refine wpAny_Call_Name_kw (L2.ld_glob I hg gC ?_ hdb)
  refine PySem.W.callWith_K0 I.kIn kC ?_
  show wpAny _ _ (PySem.call (.ref C) []) _ _ _
  obtain ⟨bm, N, nm, qn, bs, hdct, sn, sub, ab, col, dd, k0, k1, k2, k3, k5, mN, hC, hN, hni, T⟩ := L2.exc_obj I.kIn q
  refine PySem.wpAny_call_exc_subT PySem.F.excBase_ValueError T hC hN hni (fun h' e hm => ?_) (by show 0 ≤ sizeLine; exact Nat.zero_le _)
  exact L2N.mk_of I hm r h (I.hok.gone hm.new)
theorem ss_rai0 {c : Nat} {C : Addr} {x : PySem.Str} {p p2 pos : Pos} (hc : k.calm = true → X.calm = true) (F : ExcF X G T c C x) (hg : L2.Gl X x) (hdb : (x == ("__debug__" : PySem.Str)) = false) :
    SS X G k.xc (.Raise (some (.Call (.Name x p) [] [] p2)) none pos) (run T (.rai c .nil) k) := fun W' tk => by
  by_cases hk : k.calm = true
  case neg => exact ⟨fun pins s σ H D I q => by
      obtain ⟨al, ρ, h, a, p⟩ := q
      simp [run, hk, PostS] at p⟩
  refine ps_imp (L2N.ps_raise (hc hk) tk (pmk_own0 F.isx F.glo F.keep (L2.raises_own F.sub F.ty) hg hdb)) fun D σ H q => ?_
  obtain ⟨al, ρ, h, a, p⟩ := q
  simp only [run, hk, if_true, F.exf, evs, stm, List.length_nil, excF] at p
  exact p al H σ (.ref C) none .refl a.hs a.es ⟨C, F.cls, rfl, .inl ⟨rfl, rfl⟩⟩
end
end Py

namespace Py
open PySem (Addr Value Obj Expr Pos Stmt)
theorem esim_none {K : Frag} {H : Hp} {al : AL} {σ : L2.St} {ρ : Env} (e : ESim K H al σ ρ) (i : Nat) : ESim K H al (σ.set i none) (ρ.set i none) := by
  refine ⟨by rw [List.length_set, List.length_set, e.1], fun j x q => ?_⟩
  by_cases h : i = j
  · subst h
    by_cases hl : i < ρ.length
    · rw [List.getElem?_set_self hl] at q; cases q
    · rw [List.getElem?_eq_none (by simpa using hl)] at q; cases q
  · rw [List.getElem?_set_ne h] at q ⊢
    exact e.2 j x q
/-- .. where the slot holds something that the evaluator does not know -/
theorem esim_hole {K : Frag} {H : Hp} {al : AL} {σ : L2.St} {ρ : Env} (e : ESim K H al σ ρ) (i : Nat) (v : HV) : ESim K H al (σ.set i (some v)) (ρ.set i none) := by
  refine ⟨by rw [List.length_set, List.length_set, e.1], fun j x q => ?_⟩
  by_cases h : i = j
  · subst h
    by_cases hl : i < ρ.length
    · rw [List.getElem?_set_self hl] at q; cases q
    · rw [List.getElem?_eq_none (by simpa using hl)] at q; cases q
  · rw [List.getElem?_set_ne h] at q ⊢
    exact e.2 j x q
section
variable {X : L2.Cx} {G : Gt} {T : Tb} {k : Cxt} {pos p0 : Pos} {b s : Py.St}
/-- what the suite is worth, whichever exception came -/
def tSu (K : Frag) (G : Gt) (T : Tb) (i : Nat) (s : Py.St) (a : Addr) (cls : Value) (d : Option Addr) : L2.TS := fun D σ H => ∃ c' fs al ρ h, HSim K G al H h ∧ ESim K H al σ ρ ∧ σ[i]? = some (some (.ref a)) ∧ XRep K G H al cls d c' fs ∧
  match run T s ⟨badC, badC, some (i, c', fs)⟩ ρ h with
  | .nx ρ' h' => ∀ al' H' σ', Ext al H al' H' → HSim K G al' H' h' → ESim K H' al' σ' ρ' → D.nx σ' H'
  | .rt w h' => ∀ al' H' v, Ext al H al' H' → HSim K G al' H' h' → Rep K H' al' v w → D.rt v H'
  | _ => False
theorem tS_tr {W' : WX} {m : Env → MH → Out} {pn : List (Addr × Obj)} {xe : Value → PySem.Shared → Prop} {D : L2.Ends} {σ : L2.St} {H : Hp} (q : tS X G none W' m D σ H) : tS (X.tr pn xe) G none W' m D σ H := by
  obtain ⟨al, ρ, h, a, p⟩ := q
  refine ⟨al, ρ, h, ⟨a.hs, a.es, trivial⟩, ?_⟩
  cases e : m ρ h with
  | nx ρ' h' => rw [e] at p; exact fun al' H' σ' x a' => p al' H' σ' x ⟨a'.hs, a'.es, trivial⟩
  | rt w h' => rw [e] at p; exact p
  | ex c fs ρ' h' => rw [e] at p; exact p
  | bad => rw [e] at p; exact p
theorem ss_tri {c i : Nat} {C : Addr} {x n : PySem.Str} {body suite : List Stmt} {b₀ : Stmt} {np pos' : Pos} (hs : X.stack = X.env :: X.outer) (hf : X.env.frame = some X.env.locals) (hN : X.N.Nodup) (hi : X.N[i]? = some n) (hln : X.env.kindOf n = some .local)
    (hc : L2.Names X x (.ref C)) (hex : ∀ c' C', G.xcl c' = some C' → PySem.W.exmOne X.K (.ref C') (.ref C) = some (T.sub c' c))
    (hb : ∀ (pn : List (Addr × Obj)) (xe : Value → PySem.Shared → Prop), PySem.PassesOwn (PySem.model X.prog X.w) X.A X.env xe → SSs (X.tr pn xe) G none body (run T b ⟨k.C, k.M, none⟩))
    (hsu : ∀ (a : Addr) (pn : List (Addr × Obj)) (c' : Nat) (fs : List (Nat × W)), SSs (X.suite a pn) G (some (i, c', fs)) (b₀ :: suite) (run T s ⟨badC, badC, some (i, c', fs)⟩)) :
    SS X G k.xc (.Try body [.ExceptHandler (some (.Name x np)) (some n) (b₀ :: suite) pos'] [] [] pos) (run T (.tri b c i s) k) := fun W' tk => by
  cases hx : k.xc with
  | some z => exact ⟨fun pins s σ H D I q => by
      obtain ⟨al, ρ, h, a, p⟩ := q
      simp [run, hx, PostS] at p⟩
  | none =>
  have hkk : (⟨k.C, k.M, none⟩ : Cxt) = k := by cases k; simp at hx; subst hx; rfl
  rw [hkk] at hb
  refine ps_imp (L2N.ps_try_as (tb := fun W => tS X G none W (run T b k)) (ts := fun a cls d => tSu X.K G T i s a cls d) hs hf hN hi hln hc tk (fun W pn xe tk' hp => pss_imp (hb pn xe hp W tk') fun D σ H q => tS_tr q) fun a oe cls d pn hz hfl => ⟨fun pins sh σ H D I q => ?_⟩) fun D σ H q => ?_
  · obtain ⟨c', fs, al, ρ, h, h1, h2, h3, h4, h5⟩ := q
    refine (hsu a ((a, oe) :: pn) c' fs NoX takes_no).run pins sh σ H D I ⟨al, ρ, h, ⟨h1, h2, ?_⟩, ?_⟩
    · obtain ⟨vs, hv⟩ := hfl
      refine ⟨a, oe, vs, List.mem_cons_self, h3, hv, ⟨hz.2.2, rfl⟩, ?_⟩
      rw [hz.1, hz.2.1]; exact h4
    · cases e : run T s ⟨badC, badC, some (i, c', fs)⟩ ρ h with
      | nx ρ' h' => rw [e] at h5; exact fun al' H' σ' x a' => h5 al' H' σ' x a'.hs a'.es
      | rt w h' => rw [e] at h5; exact h5
      | ex => rw [e] at h5; exact h5.elim
      | bad => rw [e] at h5; exact h5.elim
  · obtain ⟨al, ρ, h, a, p⟩ := q
    refine ⟨al, ρ, h, a, ?_⟩
    simp only [run, hx] at p
    cases e : run T b k ρ h with
    | nx ρ' h' => rw [e] at p; exact p
    | rt w h' => rw [e] at p; exact p
    | bad => rw [e] at p; exact p
    | ex c' fs ρ1 h1 =>
      rw [e] at p
      simp only at p
      intro al' H' σ' cls d x1 s1 e1 r1
      obtain ⟨C', g1, rfl, g2⟩ := r1
      have hem := hex c' C' g1
      refine ⟨T.sub c' c, hem, fun hb2 ad hna => ?_, fun hb2 => ?_⟩
      · rw [if_pos hb2] at p
        split at p
        case isFalse => exact p.elim
        rename_i hlen1
        have es2 : ESim X.K H' al' (σ'.set i (some (.ref ad))) (ρ1.set i none) := esim_hole e1 i _
        have hlen : i < σ'.length := by rw [← e1.1]; exact hlen1
        refine ⟨c', fs, al', ρ1.set i none, h1, s1, es2, by simp [hlen], ⟨C', g1, rfl, g2⟩, ?_⟩
        cases e3 : run T s ⟨badC, badC, some (i, c', fs)⟩ (ρ1.set i none) h1 with
        | nx ρ2 h2 =>
          rw [e3] at p
          exact fun al2 H2 σ2 x2 s2 es3 => p al2 H2 _ (x1.trans x2) ⟨s2, esim_none es3 i, trivial⟩
        | rt w h2 =>
          rw [e3] at p
          exact fun al2 H2 v x2 s2 rv => p al2 H2 v (x1.trans x2) s2 rv
        | ex => rw [e3] at p; exact p.elim
        | bad => rw [e3] at p; exact p.elim
      · rw [if_neg (by rw [hb2]; decide)] at p
        exact p al' H' σ' (.ref C') d x1 s1 e1 ⟨C', g1, rfl, g2⟩
end
end Py

namespace Py
open PySem (Addr Value Obj Expr Pos Stmt)
section
open PySem PySem.Spec PyProof.Rows
variable {X : L2.Cx} {G : Gt} {T : Tb} {k : Cxt}
/-- by values, of any caught exception without a dict -/
def rIsX (X : L2.Cx) : List HV → Hp → L2.VK → Prop := fun xs H Q => ∃ (a C D : Addr) (oe : Obj) (b : Bool), xs = [.ref a, .ref C] ∧ (a, oe) ∈ X.pn ∧ L2.Zc (.ref D) none oe ∧ (∃ vs, oe.data = .fields vs) ∧ L2.ExcC X.K D ∧ PySem.W.kitOne X.K (.ref D) (.ref C) = some b ∧ Q (.bl b) H
theorem call_isX : L2.CallR X (.builtin "isinstance") (rIsX X) := by
  intro pins s σ H xs us Q I r h
  obtain ⟨a, C, D, oe, b, rfl, hmem, hz, hf, F, e, q⟩ := h
  cases r with
  | cons rx rr =>
    cases rr with
    | cons rt rr =>
      cases rr
      cases rx
      cases rt
      obtain ⟨hget, _⟩ := I.pin (a, oe) (List.mem_append.mpr (.inl hmem))
      obtain ⟨vs, hv⟩ := hf
      have J : PySem.W.InstAt s.heap a oe D none := by
        obtain ⟨oc, od, oda, osl⟩ := oe
        obtain ⟨h1, h2⟩ := hz
        dsimp only at h1 h2 hv
        subst h1 h2 hv
        exact ⟨hget, rfl, rfl, trivial⟩
      exact PySem.W.kia_one (PySem.W.handS_kitx_exc F.hg F.hk F.hs F.hd F.ha F.hn F.ht F.hm) I.kIn J e (fun z => nomatch z) fun tk => ⟨.bl b, H, I.kept (t' := tk) fun _ _ z => z, rfl, q⟩
theorem se_isx {i c : Nat} {C : Addr} {n x : PySem.Str} {p0 p1 p2 pos : Pos} (hN : X.N[i]? = some n) (hv : L2.Vis X.env.scope n) (hd : (n == ("__debug__" : PySem.Str)) = false) (hcd : (n == ("__classdict__" : PySem.Str)) = false) (hg : L2.Gl X "isinstance") (hm : X.mg "isinstance" = none)
    (hgx : L2.Gl X x) (hmx : X.mg x = some (.ref C)) (hdx : (x == ("__debug__" : PySem.Str)) = false) (hx : ∀ c' C' fs, k.xc = some (i, c', fs) → G.xcl c' = some C' → L2.ExcC X.K C' ∧ PySem.W.kitOne X.K (.ref C') (.ref C) = some (T.sub c' c)) :
    SE X G k.xc (.Call (.Name "isinstance" p0) [.Name n p1, .Name x p2] [] pos) (ev T k (.isx i c)) := fun W' tk => by
  refine pe_imp (L2.pe_callB call_isX hg hm (by decide +kernel) (L2.pa_cons (L2.pe_var hN hv hd hcd) (L2.pa_cons (L2.pe_glob hgx hmx (v := .ref C) rfl hdx) L2.pa_nil rfl) rfl) (he := rfl)) fun σ H Q q => ?_
  obtain ⟨al, ρ, h, a, p⟩ := rd_at q
  simp only [ev] at p
  have xs := a.xs
  cases e : k.xc with
  | none => rw [e] at p; exact p.elim
  | some z =>
    obtain ⟨j, c', fs⟩ := z
    rw [e] at p xs
    simp only at p
    split at p
    case isFalse => exact p.elim
    rename_i hj
    obtain ⟨rfl, hfs⟩ := hj
    have hfs : fs = [] := List.isEmpty_iff.mp hfs
    obtain ⟨b, oe, vs, hpn, hσ, hdat, _, D, hD, hcls, hr⟩ := xs
    obtain ⟨hE, hk⟩ := hx c' D fs e hD
    rcases hr with ⟨_, hdn⟩ | ⟨ne, _⟩
    · exact ⟨.ref b, hσ, b, C, D, oe, _, rfl, hpn, ⟨hcls, hdn⟩, ⟨vs, hdat⟩, hE, hk, p al H .refl a.hs _ (.bl _)⟩
    · exact absurd hfs ne
end
end Py

namespace Py
open PySem (Addr Value Obj Expr Pos Stmt Scope Str NameKind)
/-- names stored from the right, or not -/
def swapN (sc : Scope) (ts vs : List Expr) : Option (Option (List Str)) :=
  if (!(ts.length == 2 || ts.length == 3) || vs.length != ts.length) = true then some none
  else if (vs.any fun | .Starred .. => true | _ => false) = true then some none
  else if ((ts.filterMap fun
    | .Name id pos => if (sc.names.lookup id == some .local && pos.line == (ts.head?.map (·.pos.line)).getD 0) = true then some id else none
    | _ => none).length != ts.length || (ts.filterMap fun
    | .Name id pos => if (sc.names.lookup id == some .local && pos.line == (ts.head?.map (·.pos.line)).getD 0) = true then some id else none
    | _ => none).eraseDups.length != (ts.filterMap fun
    | .Name id pos => if (sc.names.lookup id == some .local && pos.line == (ts.head?.map (·.pos.line)).getD 0) = true then some id else none
    | _ => none).length) = true then some none
  else if vs.all (PySem.foldedForSure 8) = true then some none
  else if vs.all (PySem.constantsAlone 8) = true then none
  else some (some (ts.filterMap fun
    | .Name id pos => if (sc.names.lookup id == some .local && pos.line == (ts.head?.map (·.pos.line)).getD 0) = true then some id else none
    | _ => none))
theorem swapN_ok {env : PySem.Env} {ts vs : List Expr} {k k2 : Nat} {p p2 : Pos} {r : Option (List Str)} (hk : env.scope.kind = .function) (h : swapN env.scope ts vs = some r) : PySem.swappedStores [.Tuple ts k p] (.Tuple vs k2 p2) env = pure r := by
  have hb : env.blockKind = .function := by unfold PySem.Env.blockKind; rw [hk]; rfl
  unfold swapN at h
  unfold PySem.swappedStores
  simp only [hb]
  split at h
  · rename_i h1
    cases h
    rw [if_pos (by simpa using h1)]
  · rename_i h1
    rw [if_neg (by simpa using h1)]
    split at h
    · rename_i h2
      cases h
      exact if_pos h2
    · rename_i h2
      refine Eq.trans (if_neg h2) ?_
      split at h
      · rename_i h3
        cases h
        exact if_pos h3
      · rename_i h3
        refine Eq.trans (if_neg h3) ?_
        split at h
        · rename_i h4
          cases h
          exact if_pos h4
        · rename_i h4
          refine Eq.trans (if_neg h4) ?_
          split at h
          · cases h
          · rename_i h5
            cases h
            exact if_neg h5
end Py
namespace PyX
open PySem PySem.Spec PyProof.Rows L2 PySem.W
abbrev kcl : Str := "__class__"
/-- an own exception's __init__, as it stands -/
structure IniF (P : Program) (K : PySem.W.Frag) (C fI cc : Addr) (F : NdefX.NF) (ps : List Str) (sa : Str) : Prop where
  cl : F.cl = [(kcl, cc)]
  lk : ∃ (od : Option Addr) (sl : Array (Option Value)) (doc pm ctv : Value), K.lookup fI = some (⟨.type "function", od, .func (F.fd doc pm ctv), sl⟩ : Obj)
  code : PySem.W.codeIn K (.ref F.c) F.qual = true
  file : ∃ (ccl : Value) (cdd : Option Addr) (vs : Array Value) (ccs : Array (Option Value)) (file : Str) (tf : Tok), K.lookup F.c = some (⟨ccl, cdd, .fields vs, ccs⟩ : Obj) ∧ vs[2]? = some (.str file tf) ∧ ((P.main.file : Str) == file) = true
  cell : ∃ (c : Value) (cld : Option Addr) (csl : Array (Option Value)), K.lookup cc = some (⟨c, cld, .cell (some (.ref C)), csl⟩ : Obj)
  sc : NdefX.NScope (ps ++ [kcl]) ps [kcl] F.scope
  sup : F.scope.names.lookup ("super" : Str) = some .globalImplicit
  par : ∃ ar as, F.params.posonlyargs ++ F.params.args = ar :: as ∧ ar.arg = ("self" : Str)
  ps0 : ∃ qs, ps = ("self" : Str) :: qs
  cd : ∃ cd, PySem.W.clsIn K C = some cd
  mro : PySem.W.mroIn K C (.ref C) = some true
  sin : PySem.W.ks_superIn K C C "__init__" = some (some (.builtin "ValueError.__init__"))
  opq : PySem.W.nsIn K cStatics "thirdparty.any" = some none
  ve : PySem.W.subIn K (.ref C) (.type "ValueError") = some true
  oex : L2.OexC K C
  sgl : PySem.W.nsIn K mainGlobals "super" = some none
  top : (P.main.scope.names.lookup ("super" : Str)).isSome = false
section
variable {P : Program} {w : World} {K : PySem.W.Frag} {mg : Str → Option Value} {base : Heap} {C fI cc : Addr} {F : NdefX.NF} {ps : List Str} {sa : Str}
abbrev icx (CX : CXT) (P : Program) (w : World) (K : PySem.W.Frag) (mg : Str → Option Value) (base : Heap) (ps : List Str) (F : NdefX.NF) (fI : Addr) (A : Around) (outer : List Env) (s0 : Shared) (H0 : Hp) (E : XK) : Cx := NdefX.ncx CX P w K mg base (ps ++ [kcl]) F fI A outer s0 H0 E
abbrev exoO (C t1 : Addr) : Obj := { cls := .ref C, dict := none, data := .fields #[.ref t1, .none, .none, .none, .bool false, .none] }
/-- what the bound built-in __init__ does -/
theorem call_mw {A : Around} {E : Value → Shared → Prop} {hp : Heap} {g : Array GenState} {d : Drawn} {t : Nat} {os : OsState} {u e t0 : Addr} {args : List Value} {Q : Value → Shared → Prop}
    (T : L2.OexC K C) (KX : K.In hp) (he : hp.get? e = some (exoO C t0)) (hu : hp.get? u = some (kxs_mw "ValueError.__init__" e)) (hsz : args.length ≤ sizeLine)
    (hq : ∀ h' t1, (∀ b o, b ≠ e → hp.get? b = some o → h'.get? b = some o) → h'.get? e = some (exoO C t1) → Q .none ⟨h', g, d, t, os⟩) : wpAny (model P w) A (call (.ref u) args) Q E ⟨hp, g, d, t, os⟩ := by
  obtain ⟨nm, q, N, bs, bm, sn, sub, ab, col, dd, k0, k1, k2, k3, k5, hC, _⟩ := T.cls
  have FB := PySem.F.excBase_ValueError
  have tw : ∀ (z : Value), z = .type "method-wrapper" → (z == Value.type "method" || z == Value.type "builtin_function_or_method" || z == Value.type "method-wrapper") = true := fun z hz => by rw [hz]; decide
  refine wpAny_call (codeAny_of_tree (show wpAny _ A.in1 (callAny (.ref u) ⟨args, []⟩) _ _ _ from ?_))
  simp only [callAny]
  refine wpAny_bind (wpAny_load hu ?_)
  simp only [kxs_mw, tw _ rfl, if_true]
  refine KFB.if_so (by decide) (wpAny_bind (check_bound_init FB.toExcCallFacts (KX _ _ hC) he rfl (wpAny_bind (wpAny_pure (wpAny_pure ⟨plainId_quiet FB.init.plain _, codeAny_builtin FB.initEntry ?_⟩)))))
  exact exc_init_tree (cls := .ref C) (t0 := t0) (dv := none) (c2 := .none) (c3 := .none) (b4 := .bool false) he hsz fun h' k e1 _ => hq h' _ k e1
theorem inv_less {X : Cx} {p : Addr × Obj} {pins : List (Addr × Obj)} {σ : L2.St} {H : Hp} {s : Shared} (I : L2.Inv X (p :: pins) σ H s) : L2.Inv X pins σ H s :=
  ⟨I.ok, I.os, I.bare, I.base, I.loc, I.cell, I.free, I.freeC, fun q hq => I.pin q ((List.mem_append.mp hq).elim (List.mem_append_left _) fun z => List.mem_append_right _ (List.mem_cons_of_mem _ z)), I.hok, I.len⟩
theorem inv_more {X : Cx} {p : Addr × Obj} {pins : List (Addr × Obj)} {σ : L2.St} {H : Hp} {s : Shared} (I : L2.Inv X pins σ H s) (h : s.heap.get? p.1 = some p.2 ∧ H p.1 = none ∧ p.1 ≠ X.env.locals ∧ p.1 ∉ X.fs ∧ ∀ v, p.2.data ≠ .cell v) : L2.Inv X (p :: pins) σ H s :=
  ⟨I.ok, I.os, I.bare, I.base, I.loc, I.cell, I.free, I.freeC, fun q hq => (List.mem_append.mp hq).elim (fun z => I.pin q (List.mem_append_left _ z)) fun z => (List.mem_cons.mp z).elim (fun e => e ▸ h) fun z => I.pin q (List.mem_append_right _ z), I.hok, I.len⟩
theorem exo_inst {h : Heap} {a t1 : Addr} (he : h.get? a = some (exoO C t1)) : InstAt h a (exoO C t1) C none := ⟨he, rfl, rfl, trivial⟩
/-- super().__init__(x) in such an __init__ -/
theorem sup_ok {CX : CXT} {A : Around} {outer : List Env} {s0 : Shared} {H0 : Hp} {E : XK} {pins : List (Addr × Obj)} {σ : L2.St} {H : Hp} {s : Shared} {a : Addr} {i : Nat} {v : L2.V} {p0 p1 p2 p3 p4 : Pos} {Q : Value → Shared → Prop}
    (I : IniF P K C fI cc F ps sa) (hsup : mg "super" = none)
    (J : Inv (icx CX P w K mg base ps F fI A outer s0 H0 E) pins σ H s) (h0 : σ[0]? = some (some (.ref a))) (hi : ps[i]? = some sa) (hv : σ[i]? = some (some v)) (ha : H a = some (exo a C none))
    (hlin : (p2.endLine == p4.line) = true) (hdb : (sa == ("__debug__" : Str)) = false) (hcd : (sa == ("__classdict__" : Str)) = false)
    (hq : ∀ s', Inv (icx CX P w K mg base ps F fI A outer s0 H0 E) pins σ H s' → Q .none s') :
    _root_.PySem.wpAt (model P w) (icx CX P w K mg base ps F fI A outer s0 H0 E).A (.func F.body (NdefX.envF F fI s0.heap.objs.size))
      (eval (.Call (.Attribute (.Call (.Name "super" p0) [] [] p1) "__init__" p2) [.Name sa p3] [] p4) (NdefX.envF F fI s0.heap.objs.size)) Q (icx CX P w K mg base ps F fI A outer s0 H0 E).xe s := by
  obtain ⟨od, sl, doc, pm, ctv, lk⟩ := I.lk
  obtain ⟨ccl, cdd, vs, ccs, file, tf, lc, hvs, hfile⟩ := I.file
  obtain ⟨cl, cld, csl, lcell⟩ := I.cell
  obtain ⟨ar, as, hpar, har⟩ := I.par
  obtain ⟨cd, hcd2⟩ := I.cd
  have KX : K.In s.heap := J.kIn
  have hN0 : (ps ++ [kcl])[0]? = some ("self" : Str) := by obtain ⟨qs, e⟩ := I.ps0; rw [e]; rfl
  have hself : F.scope.names.lookup ("self" : Str) = some .local := I.sc.par _ (by obtain ⟨qs, e⟩ := I.ps0; rw [e]; exact List.mem_cons_self)
  have hkc : F.scope.names.lookup kcl = some .free := I.sc.frk _ List.mem_cons_self
  have hk : (NdefX.envF F fI s0.heap.objs.size).scope.kind = .function := I.sc.kind
  obtain ⟨oD, hD1, hD2⟩ : ∃ oD, s.heap.get? C = some oD ∧ oD.data = .cls cd := by
    unfold clsIn at hcd2
    split at hcd2
    · rename_i o1 o2 cd' o3 ho
      cases hcd2
      exact ⟨_, KX _ _ ho, rfl⟩
    · cases hcd2
  obtain ⟨mb, hb1, hb2⟩ := J.mod.blt
  obtain ⟨m, hns, hloc⟩ := J.loc
  obtain ⟨t1, hoe⟩ := exo_at J.hok ha
  have hms : m "self" = some (.ref a) := by
    obtain ⟨u, ru, lk2⟩ := hloc 0 "self" (.ref a) hN0 h0 (.inl hself)
    obtain rfl : u = Value.ref a := ru
    rcases lk2 with ⟨_, e⟩ | ⟨e, _⟩
    · exact e
    · have e2 : F.scope.names.lookup ("self" : Str) = some .cell ∨ F.scope.names.lookup ("self" : Str) = some .free := e
      rw [hself] at e2; rcases e2 with e2 | e2 <;> cases e2
  have few : methodCallForm (1 + 0) (backTo p4 (starEach [.Name sa p3] (NdefX.envF F fI s0.heap.objs.size))) (backToKw p4 (keywordEach [] (NdefX.envF F fI s0.heap.objs.size))) = true := rfl
  refine ks_wpAt_MethodCall (pl := plainOf (.Call (.Name "super" p0) [] [] p1) (NdefX.envF F fI s0.heap.objs.size)) ?_ (by
    rw [arm_eval_Call]
    congr 1; funext ov
    congr 1; funext _
    exact L2.mcall_line (n := 1 + 0) (kws := backToKw p4 (keywordEach [] (NdefX.envF F fI s0.heap.objs.size))) few hlin)
  refine ks_wpAt_super_base (fd := F.fd doc pm ctv) I.sup hkc (by decide) rfl (KX _ _ lk) rfl (by show (F.params.posonlyargs ++ F.params.args).head? = _; rw [hpar]; rfl) rfl (KX _ _ lc) rfl hvs hfile I.top ?_
  refine ks_loadName_global hk I.sup (Calls.loadGlobal_builtin (J.mod.glob.keeps J.bk) hsup (hb1.keeps J.bk) ((hb2 _ (by decide)).trans (by decide +kernel)) ⟨rfl, ?_⟩)
  refine wpAny_loadName_free hk hkc (by show List.lookup _ F.cl = _; rw [I.cl]; rfl) ⟨_, KX _ _ lcell, rfl⟩ ?_
  rw [har]
  refine wpAny_loadName_local hk hself hns hms ?_
  refine ks_wpAny_isType_cls hD1 hD2 ⟨rfl, ?_⟩
  obtain ⟨hp, g, d, t, os⟩ := s
  have hoe : hp.get? a = some (exoO C t1) := hoe
  refine ks_wpAny_call_super hD1 hD2 hoe rfl (fun c e => by cases e) (looks_mroIn KX I.mro) (fun h1 e1 k1 => ?_)
  -- the method
  have J1 := J.kept (h' := h1) (t' := t) k1
  have KX1 : K.In h1 := J1.kIn
  have hoe1 : h1.get? a = some (exoO C t1) := k1 _ _ hoe
  have hI : W.Looks (model P w) h1 (isInstance (.ref a) (.type "ValueError")) true := (exo_inst hoe1).type.andThen (looks_subIn KX1 I.ve)
  have hm := I.sin
  unfold ks_superIn at hm
  rw [hcd2] at hm
  refine kxs_getMethod kxs_ValueError e1 (looks_opaque KX1 I.opq) (l₀ := cd.mro) ?_ rfl KX1 hm hI (ks_ne KX1 (exo_inst hoe1) hcd2) (by decide) ?_
  · exact fun A Q E s k q => wpAny_bind ((looks_clsIn KX1 hcd2) A _ E s k (wpAny_pure q))
  -- the call
  have hlt : ∀ o, h1.get? h1.objs.size = some o → False := fun o z => absurd (Heap.lt_size z) (Nat.lt_irrefl _)
  have J2 : L2.Inv (icx CX P w K mg base ps F fI A outer s0 H0 E) ((h1.objs.size, kxs_mw "ValueError.__init__" a) :: pins) σ H ⟨h1.push (kxs_mw "ValueError.__init__" a), g, d, t + 1, os⟩ := by
    have Jk := J1.kept (h' := h1.push (kxs_mw "ValueError.__init__" a)) (t' := t + 1) fun b o e => Heap.get?_push_of_some _ e
    refine inv_more Jk ⟨Heap.get?_push_size _ rfl, J1.hok.fresh (Nat.le_refl _), fun z => ?_, fun z => ?_, fun v z => by cases z⟩
    · obtain ⟨m2, ⟨ob, es, ep, ho, _⟩, _⟩ := J1.loc
      exact hlt _ (by rw [show h1.objs.size = _ from z]; exact ho)
    · exact J1.nofs (Nat.le_refl _) z
  have hla : F.scope.names.lookup sa = some .local := I.sc.par _ (List.mem_of_getElem? hi)
  have hNi : (ps ++ [kcl])[i]? = some sa := by rw [List.getElem?_append_left (List.getElem?_eq_some_iff.mp hi).1]; exact hi
  have hpa := (L2.pa_cons (X := icx CX P w K mg base ps F fI A outer s0 H0 E) (L2.pe_var (pos := p3) hNi (.inl hla) hdb hcd) L2.pa_nil (by rfl)).run p4 _ _ σ H (fun vs H' => vs = [v] ∧ H' = H) J2 ⟨v, hv, rfl, rfl⟩
  refine kxs_callWith (i := "ValueError.__init__") (x := a) (by rfl) (Calls.evalArgs_plain (thn hpa fun us s2 ⟨vs, H2, J3, rv, e2, e3⟩ => ?_))
  subst e2 e3
  obtain ⟨h2, g2, d2, t2, os2⟩ := s2
  obtain ⟨hu, _⟩ := J3.pin (h1.objs.size, kxs_mw "ValueError.__init__" a) (List.mem_append_right _ List.mem_cons_self)
  obtain ⟨t3, ho3⟩ := exo_at J3.hok ha
  have hlen : us.length ≤ sizeLine := by rw [← rv.length, sizeLine_eq]; simp
  refine ⟨hu, call_mw I.oex J3.kIn ho3 hu (by simpa using hlen) fun h' t4 k4 e4 => ?_⟩
  have J4 := J3.write (t' := t2) (x := a) (e := a) (o := exo a C none) (by rw [ha]; exact True.intro) (.inl rfl) k4 ⟨_, e4⟩ (exo_ok e4)
  have eH : upd H2 a (exo a C none) = H2 := funext fun b => by
    by_cases hb : b = a
    · rw [hb, upd_same, ha]
    · rw [upd_ne hb]
  rw [eH] at J4
  exact hq _ (inv_less J4)
/-- self.f = v while the exception is being made -/
theorem pg_ost {X : Cx} {o : Expr} {f : Str} {to : TE} {pos : Pos} (ho : PE X o to) : PG X (.Attribute o f pos) fun v σ H Q => to σ H fun x H1 => ∃ a C : Addr, x = .ref a ∧ OexC X.K C ∧ PySem.W.findIn X.K (.ref C) f = some none ∧
    ((H1 a = some (exo a C none) ∧ ∀ dx, H1 dx = none → dx ≠ a → Q σ (upd (upd H1 dx (exd dx [(f, v)])) a (exo a C (some dx)))) ∨
      ∃ (dx : Addr) (fs : List (Str × V)), H1 a = some (exo a C (some dx)) ∧ H1 dx = some (exd dx fs) ∧ fs.length ≤ 900 ∧ Q σ (upd H1 dx (exd dx ((f, v) :: fs)))) := by
  refine ⟨fun pins s σ H v u Q I r h => ?_⟩
  rw [assign_Attribute]
  refine wpAny_bind (wpAny_holding (thn (ho.run pins s σ H _ I h) fun ov s1 ⟨x, H1, I1, rx, a, C, ex, T, hno, q⟩ => ?_))
  subst ex
  obtain rfl : ov = Value.ref a := rx
  refine wpAny_bind (wpAny_standAt (wpAny_bind (wpAny_holding ?_)))
  rcases q with ⟨ea, q⟩ | ⟨dx, fs, ea, ed, hl, q⟩
  · exact ost_new T I1 ea hno r fun dx s2 n ne J => wpAny_release ⟨σ, _, J, q dx n ne⟩
  · exact ost_old T I1 ea ed hl hno r fun s2 J => wpAny_release ⟨σ, _, J, q⟩
/-- what such an __init__ is made of -/
inductive BodyI (sa : Str) : List (Str × Str) → List Stmt → Prop
  | one {f y : Str} {p0 p1 p2 p3 p4 p5 q1 q2 q3 q4 : Pos} (hl : (p2.endLine == p4.line) = true) : BodyI sa [(f, y)]
      [.Expr (.Call (.Attribute (.Call (.Name "super" p0) [] [] p1) "__init__" p2) [.Name sa p3] [] p4) p5, .Assign [.Attribute (.Name "self" q1) f q2] (.Name y q3) q4]
  | two {k l : Nat} {f y g z : Str} {p0 p1 p2 p3 p4 p5 q1 q2 q3 q4 r1 r2 r3 r4 r5 : Pos} (hl : (p2.endLine == p4.line) = true) : BodyI sa [(f, y), (g, z)]
      [.Expr (.Call (.Attribute (.Call (.Name "super" p0) [] [] p1) "__init__" p2) [.Name sa p3] [] p4) p5,
        .Assign [.Tuple [.Attribute (.Name "self" q1) f q2, .Attribute (.Name "self" q3) g q4] k r1] (.Tuple [.Name y r2, .Name z r3] l r4) r5]
/-- the names of the fields, their values -/
inductive FldV (ps : List Str) (vs : List V) : List (Str × Str) → List (Str × V) → Prop
  | nil : FldV ps vs [] []
  | cons {f y : Str} {v : V} {i : Nat} {fs : List (Str × Str)} {gs : List (Str × V)} : ps[i]? = some y → vs[i]? = some v → FldV ps vs fs gs → FldV ps vs ((f, y) :: fs) ((f, v) :: gs)
def spI (C : Addr) (ps : List Str) (fs : List (Str × Str)) : Sp := fun vs H Q _ => vs.length = ps.length ∧ ∃ a ws, vs = .ref a :: ws ∧ H a = some (exo a C none) ∧
  ∀ d H' gs, FldV ps vs fs.reverse gs → H d = none → d ≠ a → H' d = some (exd d gs) → H' a = some (exo a C (some d)) → (∀ b o, b ≠ a → H b = some o → H' b = some o) → Q .non H'
theorem look1 {α : Type} {g f : Str} {y c : α} (h : List.lookup g [(f, y)] = some c) : g = f ∧ y = c := by
  rw [List.lookup_cons] at h
  cases e : g == f with
  | true => rw [e] at h; cases h; exact ⟨eq_of_beq e, rfl⟩
  | false => rw [e] at h; cases h
theorem fldv_get {vs : List V} {ps : List Str} {y : Str} (hl : vs.length = ps.length) (hy : y ∈ ps) : ∃ (i : Nat) (v : V), ps[i]? = some y ∧ vs[i]? = some v := by
  obtain ⟨i, hi⟩ := List.mem_iff_getElem?.mp hy
  have h : i < vs.length := by rw [hl]; exact (List.getElem?_eq_some_iff.mp hi).1
  exact ⟨i, vs[i], hi, by simp [h]⟩
def nameOk (x : Str) : Bool := !(x == ("__debug__" : Str)) && !(x == ("__classdict__" : Str))
theorem nameOk_no {x : Str} (h : nameOk x = true) : (x == ("__debug__" : Str)) = false ∧ (x == ("__classdict__" : Str)) = false := by
  unfold nameOk at h
  simpa using h
theorem ini_ok {k : Nat} {fs : List (Str × Str)} {od : Option Addr} {sl : Array (Option Value)} {doc pm ctv : Value} (I : IniF P K C fI cc F ps sa) (hlk : K.lookup fI = some (⟨.type "function", od, .func (F.fd doc pm ctv), sl⟩ : Obj)) (hsup : mg "super" = none) (hb : BodyI sa fs F.body) (hsa : sa ∈ ps)
    (hfs : ∀ q ∈ fs, q.2 ∈ ps ∧ PySem.W.findIn K (.ref C) q.1 = some none) (hok : ps.all nameOk = true) :
    FnOk P w K mg base (L2N.CX P w) (k + 1) fI (F.fd doc pm ctv) ps (spI C ps fs) := by
  refine ⟨fun vs H Q E h => h.1, fun A outer s H args us vs Q E hr e0 hbd r hsp => ?_⟩
  obtain ⟨hl, a, ws, rfl, ha, hq⟩ := hsp
  have KX : K.In s.heap := e0.mod.kin.keeps fun b o e => (e0.bs b o e).1
  have lim : s.heap.NoLimit := e0.mod.nolimit.keeps fun b o e => (e0.bs b o e).1
  obtain ⟨cl, cld, csl, lcell⟩ := I.cell
  have nok : ∀ y ∈ ps, (y == ("__debug__" : Str)) = false ∧ (y == ("__classdict__" : Str)) = false := fun y hy => nameOk_no (List.all_eq_true.mp hok y hy)
  have cells : NdefX.CellsAt F.cl [kcl] [some (.ref C)] s.heap H := by
    rw [I.cl]
    have hc : s.heap.IsCell cc (some (.ref C)) := ⟨_, KX _ _ lcell, rfl⟩
    have hn : H cc = none := by
      obtain ⟨o, ho⟩ : ∃ o, base.get? cc = some o := ⟨_, e0.mod.kin _ _ lcell⟩
      exact (e0.bs _ _ ho).2
    refine ⟨rfl, fun y c e => ?_, fun x y c e1 e2 => ?_, fun i y e => ?_⟩
    · obtain ⟨_, rfl⟩ := look1 e
      exact ⟨hn, _, hc⟩
    · rw [(look1 e1).1, (look1 e2).1]
    · match i, e with
      | 0, e =>
        cases e
        exact ⟨cc, rfl, fun v e => by cases e; exact ⟨_, rfl, hc⟩⟩
  refine ks_codeAny_call_defAt hr.depth (KX _ _ hlk) rfl lim (PySem.W.codeRec_of KX I.code) rfl hbd I.sc.nocell (fun ⟨n, _⟩ hy => I.sc.par n (List.of_mem_zip hy).1) (fun h₀ hns kp => ?_) I.sc.co I.sc.gen I.sc.kind
  have J0 : L2.Inv (icx (L2N.CX P w) P w K mg base ps F fI A outer s H E) [] (NdefX.startF (ps ++ [kcl]) (.ref a :: ws) [some (.ref C)]) H { s with heap := h₀, toks := s.toks + (ps.zip us).length } := NdefX.inv_startN I.sc hr.hd e0 hl r cells hns kp
  have hst : ∀ (i : Nat) (v : V), (V.ref a :: ws)[i]? = some v → (NdefX.startF (ps ++ [kcl]) (.ref a :: ws) [some (.ref C)])[i]? = some (some v) := fun i v e => by
    unfold NdefX.startF
    have hi : i < (V.ref a :: ws).length := (List.getElem?_eq_some_iff.mp e).1
    rw [List.getElem?_append_left (by simpa using hi), List.getElem?_map, e]; rfl
  have hNp : ∀ (i : Nat) (y : Str), ps[i]? = some y → (ps ++ [kcl])[i]? = some y := fun i y e => by rw [List.getElem?_append_left (List.getElem?_eq_some_iff.mp e).1]; exact e
  have hvis : ∀ y ∈ ps, L2.Vis F.scope y := fun y hy => .inl (I.sc.par y hy)
  have hps0 : ps[0]? = some ("self" : Str) := by obtain ⟨qs, e⟩ := I.ps0; rw [e]; rfl
  have pself : ∀ p, PE (icx (L2N.CX P w) P w K mg base ps F fI A outer s H E) (.Name "self" p) (tVar 0) := fun p => L2.pe_var (X := icx (L2N.CX P w) P w K mg base ps F fI A outer s H E) (hNp 0 _ hps0) (hvis _ (List.mem_of_getElem? hps0)) (by decide) (by decide)
  have pany : ∀ (i : Nat) (y : Str) p, ps[i]? = some y → PE (icx (L2N.CX P w) P w K mg base ps F fI A outer s H E) (.Name y p) (tVar i) := fun i y p e => L2.pe_var (X := icx (L2N.CX P w) P w K mg base ps F fI A outer s H E) (hNp i _ e) (hvis _ (List.mem_of_getElem? e)) (nok y (List.mem_of_getElem? e)).1 (nok y (List.mem_of_getElem? e)).2
  obtain ⟨isa, vsa, h1, h2⟩ := fldv_get hl hsa
  have hs0 := hst 0 _ rfl
  generalize hσ : NdefX.startF (ps ++ [kcl]) (V.ref a :: ws) [some (.ref C)] = σ0 at J0 hst hs0
  have fin : ∀ {H' : Hp} {s' : Shared} {σ' : L2.St}, L2.Inv (icx (L2N.CX P w) P w K mg base ps F fI A outer s H E) [] σ' H' s' → Q .non H' → CR (L2N.CX P w) outer P w H s Q E (.ok (.ret .none)) s' := fun {H' s' σ'} J q => ⟨.non, H', J.os, J.bare, J.base, J.hok, rfl, q⟩
  -- the first two statements
  have two : ∀ {st3 : Stmt} {p0 p1 p2 p3 p4 p5 : Pos} {c : Code}, c = .func F.body (NdefX.envF F fI s.heap.objs.size) → (p2.endLine == p4.line) = true →
      (∀ s2, L2.Inv (icx (L2N.CX P w) P w K mg base ps F fI A outer s H E) [] σ0 H s2 → wpAny (model P w) (icx (L2N.CX P w) P w K mg base ps F fI A outer s H E).A (exec st3 (NdefX.envF F fI s.heap.objs.size)) (fun f s' => f = .next ∧ CR (L2N.CX P w) outer P w H s Q E (.ok (.ret .none)) s') (icx (L2N.CX P w) P w K mg base ps F fI A outer s H E).xe s2) →
      _root_.PySem.wpAt (model P w) (icx (L2N.CX P w) P w K mg base ps F fI A outer s H E).A c (execs [.Expr (.Call (.Attribute (.Call (.Name "super" p0) [] [] p1) "__init__" p2) [.Name sa p3] [] p4) p5, st3] (NdefX.envF F fI s.heap.objs.size))
        (fun f s' => CR (L2N.CX P w) outer P w H s Q E (.ok (.ret (match f with | .ret v => v | _ => .none))) s') (icx (L2N.CX P w) P w K mg base ps F fI A outer s H E).xe { s with heap := h₀, toks := s.toks + (ps.zip us).length } := by
    intro st3 p0 p1 p2 p3 p4 p5 c hc hlin h3
    subst hc
    refine ks_wpAt_execs_cons (ks_wpAt_Expr_any (sup_ok I hsup J0 hs0 h1 (hst _ _ h2) ha hlin (nok sa hsa).1 (nok sa hsa).2 fun s2 J2 => ?_) (hi := J0.quiet))
    refine ks_wpAt_execs_cons (wpAt_of_wpAny (wpAny_mono (h3 s2 J2) (fun f s3 h => ?_) fun _ _ z => z))
    obtain ⟨rfl, h⟩ := h
    exact wpAt_of_wpAny (wpAny_execs_nil h)
  have nota : ∀ {d : Addr}, H d = none → d ≠ a := fun {d} e z => by rw [z, ha] at e; cases e
  generalize hB : F.body = B at hb
  have goal : ∀ c, c = .func F.body (NdefX.envF F fI s.heap.objs.size) → _root_.PySem.wpAt (model P w) (icx (L2N.CX P w) P w K mg base ps F fI A outer s H E).A c (execs B (NdefX.envF F fI s.heap.objs.size))
        (fun f s' => CR (L2N.CX P w) outer P w H s Q E (.ok (.ret (match f with | .ret v => v | _ => .none))) s') (icx (L2N.CX P w) P w K mg base ps F fI A outer s H E).xe { s with heap := h₀, toks := s.toks + (ps.zip us).length } := by
    intro c hc
    cases hb with
    | @one f y p0 p1 p2 p3 p4 p5 q1 q2 q3 q4 hlin =>
      obtain ⟨hy, hno⟩ := hfs (f, y) List.mem_cons_self
      obtain ⟨iy, vy, g1, g2⟩ := fldv_get hl hy
      refine two hc hlin fun s2 J2 => ?_
      refine wpAny_mono ((ps_ost (p' := q2) (pos := q4) (f := f) (pself q1) (pany iy y q3 g1)).run [] s2 σ0 H { nx := fun σ' H' => Q .non H', rt := fun _ _ => False } J2 ⟨vy, hst _ _ g2, .ref a, hs0, a, C, rfl, I.oex, hno, .inl ⟨ha, fun dx hd ne => ?_⟩⟩) (fun fl s3 h => ?_) fun _ _ z => z
      · refine hq dx _ [(f, vy)] (.cons g1 g2 .nil) hd ne ?_ ?_ fun b o hb e => ?_
        · rw [upd_ne ne, upd_same]
        · rw [upd_same]
        · rw [upd_ne hb, upd_ne (ne_of_none e hd)]; exact e
      · cases fl with
        | next => obtain ⟨σ1, H1, J3, q⟩ := h; exact ⟨rfl, fin J3 q⟩
        | ret u => obtain ⟨_, _, _, _, _, z⟩ := h; exact z.elim
        | brk => obtain ⟨_, _, _, z⟩ := h; exact z.elim
        | cont => obtain ⟨_, _, _, z⟩ := h; exact z.elim
    | @two kk l f y g z p0 p1 p2 p3 p4 p5 q1 q2 q3 q4 r1 r2 r3 r4 r5 hlin =>
      obtain ⟨hy, hno⟩ := hfs (f, y) List.mem_cons_self
      obtain ⟨hz, hno2⟩ := hfs (g, z) (List.mem_cons_of_mem _ List.mem_cons_self)
      obtain ⟨iy, vy, g1, g2⟩ := fldv_get hl hy
      obtain ⟨iz, vz, g3, g4⟩ := fldv_get hl hz
      refine two hc hlin fun s2 J2 => ?_
      have hsw : swappedStores [.Tuple [.Attribute (.Name "self" q1) f q2, .Attribute (.Name "self" q3) g q4] kk r1] (.Tuple [.Name y r2, .Name z r3] l r4) (NdefX.envF F fI s.heap.objs.size) = pure none :=
        Py.swapN_ok (env := NdefX.envF F fI s.heap.objs.size) I.sc.kind (by unfold Py.swapN; simp)
      have hv : PE (icx (L2N.CX P w) P w K mg base ps F fI A outer s H E) (.Tuple [.Name y r2, .Name z r3] l r4) _ := L2.pe_tup (pa_cons (pany iy y r2 g1) (pa_cons (pany iz z r3 g3) pa_nil))
      have hg : PG (icx (L2N.CX P w) P w K mg base ps F fI A outer s H E) (.Tuple [.Attribute (.Name "self" q1) f q2, .Attribute (.Name "self" q3) g q4] kk r1) _ := pg_tup (n := 2) rfl (pgs_cons (pg_ost (pself q1)) (pgs_cons (pg_ost (pself q3)) pgs_nil))
      refine wpAny_mono ((ps_asg (pos := r5) hv hg rfl hsw).run [] s2 σ0 H { nx := fun σ' H' => Q .non H', rt := fun _ _ => False } J2 ⟨vy, hst _ _ g2, vz, hst _ _ g4, by rw [sizeLine_eq]; simp, fun pp hp => ⟨pp, [vy, vz], rfl, .inl (.inl upd_same), rfl, vy, [vz], rfl, .ref a, hs0, a, C, rfl, I.oex, hno, .inl ⟨?_, fun dx hd ne =>
          ⟨vz, [], rfl, .ref a, hs0, a, C, rfl, I.oex, hno2, .inr ⟨dx, _, upd_same, by rw [upd_ne ne, upd_same], by simp, rfl, ?_⟩⟩⟩⟩⟩) (fun fl s3 h => ?_) fun _ _ z => z
      · rw [upd_ne (nota hp).symm]; exact ha
      · have hpd : pp ≠ dx := fun e => by rw [← e, upd_same] at hd; cases hd
        have hd' : H dx = none := by rw [upd_ne hpd.symm] at hd; exact hd
        refine hq dx _ [(g, vz), (f, vy)] (.cons g3 g4 (.cons g1 g2 .nil)) hd' ne ?_ ?_ fun b o hb e => ?_
        · rw [upd_same]
        · rw [upd_ne ne.symm, upd_same]
        · rw [upd_ne (ne_of_none e hd'), upd_ne hb, upd_ne (ne_of_none e hd'), upd_ne (ne_of_none e hp)]; exact e
      · cases fl with
        | next => obtain ⟨σ1, H1, J3, q⟩ := h; exact ⟨rfl, fin J3 q⟩
        | ret u => obtain ⟨_, _, _, _, _, z⟩ := h; exact z.elim
        | brk => obtain ⟨_, _, _, z⟩ := h; exact z.elim
        | cont => obtain ⟨_, _, _, z⟩ := h; exact z.elim
  have G := goal _ rfl
  rw [hB] at G
  exact G
end
end PyX

namespace PyX
open PySem PySem.Spec PyProof.Rows L2 PySem.W
/-- how the parameters bind -/
def BndI (ps : List Str) : Prop := ∀ (fd : FuncData) (as : List Arg), fd.params = ⟨[], as, none, [], [], none, []⟩ → as.map (·.arg) = ps → fd.defaults = .none → fd.kwdefaults = .none → ∀ us : List Value, us.length = ps.length → bindArgs fd ⟨us, []⟩ = pure (ps.zip us)
theorem bndI2 {a b : Str} (h : ∀ (fd : FuncData) (x y : Option Expr) (p q : Pos), fd.params = ⟨[], [⟨a, x, p⟩, ⟨b, y, q⟩], none, [], [], none, []⟩ → fd.defaults = .none → fd.kwdefaults = .none → ∀ u v : Value, bindArgs fd ⟨[u, v], []⟩ = pure [(a, u), (b, v)]) : BndI [a, b] := by
  intro fd as hp hn hd hk us hl
  match as, hn with
  | [⟨n1, x, p⟩, ⟨n2, y, q⟩], hn =>
    simp only [List.map_cons, List.map_nil, List.cons.injEq, and_true] at hn
    obtain ⟨rfl, rfl⟩ := hn
    match us, hl with
    | [u, v], _ => exact h fd x y p q hp hd hk u v
theorem bndI3 {a b c : Str} (h : ∀ (fd : FuncData) (x y z : Option Expr) (p q r : Pos), fd.params = ⟨[], [⟨a, x, p⟩, ⟨b, y, q⟩, ⟨c, z, r⟩], none, [], [], none, []⟩ → fd.defaults = .none → fd.kwdefaults = .none → ∀ u v w : Value, bindArgs fd ⟨[u, v, w], []⟩ = pure [(a, u), (b, v), (c, w)]) : BndI [a, b, c] := by
  intro fd as hp hn hd hk us hl
  match as, hn with
  | [⟨n1, x, p⟩, ⟨n2, y, q⟩, ⟨n3, z, r⟩], hn =>
    simp only [List.map_cons, List.map_nil, List.cons.injEq, and_true] at hn
    obtain ⟨rfl, rfl, rfl⟩ := hn
    match us, hl with
    | [u, v, w], _ => exact h fd x y z p q r hp hd hk u v w
theorem bnd_part : BndI ["self", "part"] := bndI2 fun fd x y p q hp hd hk u v => by
  obtain ⟨n1, n2, n3, n4, n5, n6, n7, n8, n9, n10, n11, n12, n13, n14, n15⟩ := fd
  simp only at hp hd hk
  subst hp hd hk
  rfl
theorem bnd_line : BndI ["self", "line"] := bndI2 fun fd x y p q hp hd hk u v => by
  obtain ⟨n1, n2, n3, n4, n5, n6, n7, n8, n9, n10, n11, n12, n13, n14, n15⟩ := fd
  simp only at hp hd hk
  subst hp hd hk
  rfl
theorem bnd_how : BndI ["self", "how", "why"] := bndI3 fun fd x y z p q r hp hd hk u v w => by
  obtain ⟨n1, n2, n3, n4, n5, n6, n7, n8, n9, n10, n11, n12, n13, n14, n15⟩ := fd
  simp only at hp hd hk
  subst hp hd hk
  rfl
/-- X(e, ..) for a raise: the exception's context is None -/
theorem pmk_oexN {X : Cx} {CX : CXT} {x : Str} {C fI : Addr} {k : Nat} {fd : FuncData} {ps : List Str} {sp : Sp} {e : Expr} {es : List Expr} {ta : TA} {p pos : Pos} (T : OexC X.K C) (iC : PySem.W.findIn X.K (.ref C) "__init__" = some (some (.ref fI))) (tI : PySem.W.typeIn X.K (.ref fI) = some (.type "function"))
    (F1 : FnOk X.prog X.w X.K X.mg X.base CX k fI fd ps sp) (hr : Room (k + 1) X.A) (hb : Binds X.K fd ps []) (hx : Passes CX X (fun _ _ _ => False)) (hg : Gl X x) (hm : X.mg x = some (.ref C)) (ha : PA X (e :: es) ta)
    (hdb : (x == ("__debug__" : Str)) = false) (he : starEach (e :: es) X.env = (false, eval e X.env) :: starEach es X.env) (hpl : ∀ pos : Pos, (backTo pos (starEach es X.env)).any (·.1) = false) : L2N.PMk X (.Call (.Name x p) (e :: es) [] pos) (tMkO C sp [] ta) := by
  intro pins s σ H Q I h
  obtain ⟨nm, q, N, bs, bm, sn, sub, ab, col, dd, k0, k1, k2, k3, k5, hC, hbm⟩ := T.cls
  have hkm := I.ok.mod.kin
  refine wpAny_Call_Name_kw (ld_glob I hg hm (PySem.W.callWith_K (h₀ := X.base) hkm T.kC (thn (ha.run pos pins s σ H _ I h) fun us s1 ⟨vs, H1, I1, r1, hz, q1⟩ => ⟨I1.kIn, (show wpAny _ _ (call (.ref C) us) _ _ _ from ?_)⟩) he (hpl pos)) hdb)
  obtain ⟨hp, g, dr, tk, os⟩ := s1
  generalize hea : hp.objs.size + 1 = ea
  have hsz : hp.objs.size ≤ ea := by omega
  have hn : H1 ea = none := I1.hok.fresh hsz
  have hq := q1 ea hn
  have kk : ∀ b o, hp.get? b = some o → ((hp.push (PySem.W.kdv_tup us)).push (PySem.HandSPX.excO C hp.objs.size)).get? b = some o := fun b o z => Heap.get?_push_of_some _ (Heap.get?_push_of_some _ z)
  have hget : ((hp.push (PySem.W.kdv_tup us)).push (PySem.HandSPX.excO C hp.objs.size)).get? ea = some (PySem.HandSPX.excO C hp.objs.size) := by rw [← hea]; heap_get
  have I2 : Inv X pins σ (upd H1 ea (exo ea C none)) ⟨(hp.push (PySem.W.kdv_tup us)).push (PySem.HandSPX.excO C hp.objs.size), g, dr, tk, os⟩ := I1.laid (t' := tk) (a := ea) (o := exo ea C none) (h' := (hp.push (PySem.W.kdv_tup us)).push (PySem.HandSPX.excO C hp.objs.size)) kk hsz (exo_ok hget)
  have r2 : Vals (V.ref ea :: (vs ++ [])) (Value.ref ea :: (us ++ [])) := .cons rfl (r1.append .nil)
  have hl : (Value.ref ea :: us ++ []).length = ps.length := (F1.len _ _ _ _ hq ▸ r2.length).symm
  have hus : us.length ≤ sizeLine := by
    rw [← Paired.length r1, sizeLine_eq]
    omega
  have hbb : BindsTo ⟨(hp.push (PySem.W.kdv_tup us)).push (PySem.HandSPX.excO C hp.objs.size), g, dr, tk, os⟩ fd ⟨Value.ref ea :: us, []⟩ (ps.zip (Value.ref ea :: (us ++ []))) := by
    have z := hb _ (Value.ref ea :: us) I2.kIn hl
    rw [List.cons_append] at z
    exact z
  have run := F1.run _ X.stack _ _ ⟨Value.ref ea :: us, []⟩ (Value.ref ea :: (us ++ [])) _ _ (fun _ _ _ => False) (hr.make C us []) (I2.env0.make C us []) hbb r2 hq
  subst hea
  refine wpAny_call (PySem.HandSPX.call_own PySem.F.excBase_ValueError (fun Y => PySem.HandSPX.refsVE_contains Y bm hbm) (I1.kIn _ _ hC) (PySem.W.looks_findIn I1.kIn iC) (fun self => PySem.W.bind_fn I1.kIn self tI) hus (codeAny_mono run fun r s' hq' => ?_))
  cases r with
  | error er => exact hx pins σ _ _ er s' I2 hq'
  | ok fl =>
    cases fl with
    | ret u =>
      obtain ⟨v, H2, os2, bare2, un2, hok2, rv, ev, d, fs, ea, ed, hd1, q2⟩ := hq'
      subst ev
      obtain ⟨h2, g2, d2, t2, os'⟩ := s'
      obtain ⟨t0, G, J, kG, ge, hoe, na⟩ := mk_end0 (d2 := d2) (t2 := t2) I1 hsz kk un2 hok2 os2 bare2 ea ed hd1
      exact ⟨rv, _, _, _, ⟨G, g2, d2, t2, os'⟩, _, .ref C, some d, rfl, J, kG, ge, hoe, ⟨rfl, rfl, fun vs z => by cases z; rfl⟩, rfl, rfl, na, rfl, bare2, raises_own T.exC T.tyC, q2⟩
    | next => exact hq'.elim
    | brk => exact hq'.elim
    | cont => exact hq'.elim
end PyX
namespace Py
open PySem (Addr Value Obj Expr Pos Stmt)
/-- an own class of exceptions with fields: n arguments, l its fields (the last one first) and the arguments that they hold -/
structure ExcG (X : L2.Cx) (G : Gt) (T : Tb) (c : Nat) (C : Addr) (x : PySem.Str) (n : Nat) (l : List (Nat × Nat)) : Prop where
  cls : G.xcl c = some C
  glo : X.mg x = some (.ref C)
  exf : T.exf c = some (n, l)
  ne : l ≠ []
  sgl : X.mg "super" = none
  ini : ∃ (fI cc : Addr) (F : NdefX.NF) (ps : List PySem.Str) (sa : PySem.Str) (fs : List (PySem.Str × PySem.Str)) (od : Option Addr) (sl : Array (Option Value)) (doc pm ctv : Value), PyX.IniF X.prog X.K C fI cc F ps sa ∧
    X.K.lookup fI = some (⟨.type "function", od, .func (F.fd doc pm ctv), sl⟩ : Obj) ∧ PyX.BodyI sa fs F.body ∧ sa ∈ ps ∧ (∀ q ∈ fs, q.2 ∈ ps ∧ PySem.W.findIn X.K (.ref C) q.1 = some none) ∧ ps.all PyX.nameOk = true ∧
    PySem.W.findIn X.K (.ref C) "__init__" = some (some (.ref fI)) ∧ PySem.W.typeIn X.K (.ref fI) = some (.type "function") ∧ PyX.BndI ps ∧ (∃ as, F.params = ⟨[], as, none, [], [], none, []⟩ ∧ as.map (·.arg) = ps) ∧
    ps.length = n + 1 ∧ Fa2 (fun (q : PySem.Str × PySem.Str) (r : Nat × Nat) => q.1 = G.fnm r.1 ∧ ps[r.2 + 1]? = some q.2) fs.reverse l ∧ ps.Nodup
section
open PySem PySem.Spec PyProof.Rows
variable {X : L2.Cx} {G : Gt} {T : Tb} {k : Cxt}
theorem fld_rep {K : Frag} {al : AL} {H' : Hp} {ps : List PySem.Str} {a : Addr} {vs : List HV} {ws : List W} (nd : ps.Nodup) (r : RepL K H' al vs ws) {fs : List (PySem.Str × PySem.Str)} {l : List (Nat × Nat)}
    (hf : Fa2 (fun (q : PySem.Str × PySem.Str) (r : Nat × Nat) => q.1 = G.fnm r.1 ∧ ps[r.2 + 1]? = some q.2) fs l) : ∀ {gs : List (PySem.Str × HV)} {us : List (Nat × W)}, PyX.FldV ps (.ref a :: vs) fs gs → excF ws l = some us → RepF K G H' al gs us := by
  induction hf with
  | nil =>
    intro gs us h e
    cases h
    cases e; exact .nil
  | @cons q b fs bs h _ ih =>
    intro gs us hv e
    cases hv with
    | @cons f y v i _ gs h1 h2 h3 =>
      obtain ⟨fn, j⟩ := b
      simp only [excF] at e
      cases e1 : ws[j]? with
      | none => rw [e1] at e; simp at e
      | some w =>
        cases e2 : excF ws bs with
        | none => rw [e1, e2] at e; simp at e
        | some us2 =>
          rw [e1, e2] at e
          cases e
          have hi : i = j + 1 := by
            obtain ⟨a1, b1⟩ := List.getElem?_eq_some_iff.mp h1
            obtain ⟨a2, b2⟩ := List.getElem?_eq_some_iff.mp h.2
            exact (List.getElem_inj nd).mp (b1.trans b2.symm)
          subst hi
          obtain ⟨v', g1, g2⟩ := r.get e1
          have hv : v' = v := by
            have : (L2.V.ref a :: vs)[j + 1]? = some v := h2
            rw [List.getElem?_cons_succ, g1] at this
            exact Option.some.inj this
          subst hv
          exact .cons ⟨h.1, g2⟩ (ih h3 e2)
theorem excF_len {ws : List W} : ∀ {l : List (Nat × Nat)} {us : List (Nat × W)}, excF ws l = some us → us.length = l.length
  | [], us, e => by cases e; rfl
  | (f, j) :: l, us, e => by
    simp only [excF] at e
    split at e
    · rename_i w us2 e1 e2
      cases e
      rw [List.length_cons, List.length_cons, excF_len e2]
    · cases e
theorem ss_rai {n c m : Nat} {C : Addr} {l : List (Nat × Nat)} {x : PySem.Str} {e : Expr} {es : List Expr} {as : Ex} {p p2 pos : Pos} (hc : k.calm = true → X.calm = true) (hr : k.calm = true → L2.Room (n + 2) X.A) (F : ExcG X G T c C x m l) (hg : L2.Gl X x) (hdb : (x == ("__debug__" : PySem.Str)) = false)
    (ha : SA X G k.xc (e :: es) (evs T k as)) (hs : PySem.starEach (e :: es) X.env = (e :: es).map fun e => (false, PySem.eval e X.env)) (hm : m ≤ 1000) :
    SS X G k.xc (.Raise (some (.Call (.Name x p) (e :: es) [] p2)) none pos) (run T (.rai c as) k) := fun W' tk => by
  by_cases hk : k.calm = true
  case neg => exact ⟨fun pins s σ H D I q => by
      obtain ⟨al, ρ, h, a, p⟩ := q
      simp [run, hk, PostS] at p⟩
  obtain ⟨fI, cc, NF, ps, sa, fs, od, sl, doc, pm, ctv, IF, lk, hB, hsa, hfs, hok, hini, hty, hbnd, ⟨as0, hpar, hmap⟩, hlen, hfld, hnd⟩ := F.ini
  have hbi : L2.Binds X.K (NF.fd doc pm ctv) ps [] := L2.Binds.all fun us hl => hbnd (NF.fd doc pm ctv) as0 hpar hmap rfl rfl us hl
  have hF1 : L2.FnOk X.prog X.w X.K X.mg X.base (L2N.CX X.prog X.w) (n + 1) fI (NF.fd doc pm ctv) ps (PyX.spI C ps fs) := PyX.ini_ok IF lk F.sgl hB hsa hfs hok
  refine ps_imp (L2N.ps_raise (hc hk) tk (PyX.pmk_oexN (CX := L2N.CX X.prog X.w) (k := n + 1) IF.oex hini hty hF1 (hr hk) hbi ?_ hg F.glo (ha W' tk) hdb (trees_head hs) fun pos => trees_any (trees_tail hs))) fun D σ H q => ?_
  · intro pins σ H s e s' I hx
    obtain ⟨_, _, _, _, _, _, _, _, _, _, _, _, z⟩ := hx
    exact z.elim
  obtain ⟨al, ρ, h, a, p⟩ := q
  simp only [run, hk, if_true, F.exf] at p
  cases ee : evs T k as ρ h with
  | bad => rw [ee] at p; exact p.elim
  | exc c' fs' h' =>
    rw [ee] at p
    exact rd_ofA a (by rw [ee]; exact fun al' H' cls d x s r => p al' H' σ cls d x s (a.es.mono x) r)
  | ok ws h' =>
    rw [ee] at p
    simp only [stm] at p
    split at p
    case isFalse => exact p.elim
    rename_i hl
    cases e2 : excF ws l with
    | none => rw [e2] at p; exact p.elim
    | some us =>
      rw [e2] at p
      simp only at p
      refine rd_ofA a ?_
      rw [ee]
      intro al1 H1 x1 s1 vs r1
      refine ⟨by rw [r1.length, hl]; exact hm, fun ea hea => ?_⟩
      refine ⟨by simp [r1.length, hl, hlen], ea, vs, by simp, L2.upd_same, fun d H2 gs hgs hd hne h1 h2 h3 => ⟨rfl, d, gs, h2, h1, ?_, ?_⟩⟩
      · rw [L2.upd_ne hne] at hd; exact hd
      · have hd1 : H1 d = none := by rw [L2.upd_ne hne] at hd; exact hd
        have heq : ∀ b o, H1 b = some o → L2.upd (L2.del H2 ea) d (.xd gs) b = some o := fun b o e => by
          have nb : b ≠ ea := fun z => by rw [z, hea] at e; cases e
          rw [L2.upd_ne (L2.ne_of_none e hd1), L2.del_ne nb]
          exact h3 b o nb (by rw [L2.upd_ne nb]; exact e)
        have hx : Ext al1 H1 al1 (L2.upd (L2.del H2 ea) d (.xd gs)) := ⟨⟨[], AL.app_nil⟩, fun b o e _ => heq b o e, fun _ h n => absurd h n, fun b hb => by
          obtain ⟨u, q⟩ := (s1.fen b hb).2
          rw [q]; exact heq b u q, fun b x v _ e => heq b _ e⟩
        have hs2 : HSim X.K G al1 (L2.upd (L2.del H2 ea) d (.xd gs)) h' := s1.same hx fun b hb => by
          obtain ⟨u, q⟩ := s1.there hb
          rw [q]; exact heq b u q
        have rep : RepF X.K G (L2.upd (L2.del H2 ea) d (.xd gs)) al1 gs us := fld_rep hnd (r1.mono hx) hfld (by simpa using hgs) e2
        have hne2 : us ≠ [] := fun z => by
          have := excF_len e2
          rw [z] at this
          exact F.ne (List.length_eq_zero_iff.mp this.symm)
        exact p al1 _ σ (.ref C) (some d) (x1.trans hx) hs2 (a.es.mono (x1.trans hx)) ⟨C, F.cls, rfl, .inr ⟨hne2, d, gs, rfl, s1.out hd1, L2.upd_same, rep⟩⟩
end
end Py

namespace PyX
open PySem PySem.Spec PyProof.Rows L2
section
variable {prog : Program} {w : World} {A : Around} {E : Value → Shared → Prop} {s : Shared}
theorem tup_end_hot {it t x1 : Addr} {i : Nat} {items : Array Value} {Q : Option Value → Shared → Prop} (hot : HotX.HotAt A x1 s.heap) (hit : IsTupIter s.heap it t i) (ht : IsTup s.heap t items) (hx : items[i]? = none) (hne : x1 ≠ it)
    (hQ : ∀ h', Heap.ExtBut it s.heap h' → Q none { s with heap := h' }) : wpAny (model prog w) A (pyNext (.ref it)) Q E s := by
  obtain ⟨hh, o1, vs1, g1, g2, g3⟩ := hot
  have hit0 := hit
  obtain ⟨o, ho, hc, hd⟩ := hit0
  obtain ⟨ol, hol, _, nl, hdl⟩ := ht
  unfold pyNext
  refine wpAny_bind (wpAny_attempt (wpAny_callSpecial?_slot (name := Str.ofString "__next__") hit.typeIs slot_tupleiter_next (wpAny_call_entry slot_tupleiter_next hit.typeIs entry_tupleiter_next (show wpAny _ _ (field (.ref it) 0 >>= _) _ _ s from wpAny_bind (wpAny_field ho hd (x := .ref t) rfl ?_)) (args_tupleiter_next _))))
  refine (show wpAny _ _ (if (Value.ref t == Value.none) = true then _ else _) _ _ s from ?_)
  rw [if_neg (by simp)]
  refine (show wpAny _ _ (field (.ref it) 1 >>= _) _ _ s from wpAny_bind (wpAny_field ho hd (x := .int i 0) rfl ?_))
  refine (show wpAny _ _ (seqItems? (.ref t) >>= _) _ _ s from wpAny_bind (wpAny_seqItems hol hdl ?_))
  simp only [Int.toNat_natCast, hx]
  refine wpAny_bind (wpAny_rule (wpAny_bind (wpAny_setField ho hd (by simp) ?_)))
  refine (show wpAny _ _ (newExc (.type "StopIteration") [] >>= _) _ _ _ from wpAny_bind ?_)
  simp only [newExc, newTuple]
  refine wpAny_bind (wpAny_newObj_type ?_ (by size_fits))
  refine wpAny_bind (m := firstArgMember _ _) (wpAny_of_eq (a := Value.none) (by first | rfl | (simp only [firstArgMember]; rfl)) (wpAny_newObj_type ?_ (by size_fits)))
  have k0 : ∀ (f : Obj → Obj) b o, b ≠ it → s.heap.get? b = some o → (s.heap.update it f).get? b = some o := fun f b o hb e => (Heap.get?_update_other _ _ (Ne.symm hb)).trans e
  refine HotX.raiseNew_hot ⟨hh, o1, vs1, Heap.get?_push_of_some _ (Heap.get?_push_of_some _ (k0 _ _ _ hne g1)), g2, g3⟩ (Nat.ne_of_lt (Heap.lt_size (Heap.get?_push_of_some _ (k0 _ _ _ hne g1)))) (Heap.get?_push_size _ rfl) rfl (by first | (simp; done) | (simp; omega) | (simp only [Array.size_append]; simp; omega)) ?_
  refine wpAny_bind (wpAny_isInstance (T := "StopIteration") (b := true) ⟨_, Heap.get?_update_self _ (Heap.get?_push_size _ rfl) rfl, rfl⟩ isSubtype_stop (wpAny_pure (hQ _ fun b o hb e => ?_)))
  rw [Heap.get?_update_other _ _ (Nat.ne_of_gt (Heap.lt_size (Heap.get?_push_of_some _ (k0 _ _ _ hb e))))]
  exact Heap.get?_push_of_some _ (Heap.get?_push_of_some _ (k0 _ _ _ hb e))
theorem unpack_hot {t x1 : Addr} {items : Array Value} {Q : List Value → Shared → Prop} (hot : HotX.HotAt A x1 s.heap) (ht : IsTup s.heap t items)
    (hQ : ∀ h', Heap.ExtBut s.heap.objs.size s.heap h' → Q items.toList { s with heap := h' }) : wpAny (model prog w) A (unpackItems (.ref t) items.size none) Q E s := by
  have ht0 := ht
  obtain ⟨o, ho, _⟩ := ht0
  have hlt : t ≠ s.heap.objs.size := Nat.ne_of_lt (Heap.lt_size ho)
  obtain ⟨hh, o1, vs1, g1, g2, g3⟩ := hot
  have hxn : x1 ≠ s.heap.objs.size := Nat.ne_of_lt (Heap.lt_size g1)
  unfold unpackItems notIterableAtAll
  refine wpAny_bind (wpAny_bind (wpAny_specialOf ht.typeIs slot_tuple_iter.lookup (wpAny_pure ?_)))
  simp only [Bool.false_eq_true, if_false]
  refine wpAny_bind (wpAny_holding (iter_tuple ht (wpAny_bind (wpAny_holding (draw_tuple hlt items.size 0 _ _ ⟨_, Heap.get?_push_size _ rfl, rfl, rfl⟩ (ht.push _) (by omega) fun h₁ hit₁ hs₁ => ?_)))))
  have hall : List.take items.size (List.drop 0 items.toList) = items.toList := by
    rw [List.drop_zero]; exact List.take_of_length_le (by simp)
  rw [hall, if_neg (by simp)]
  have k1 : ∀ b o, b ≠ s.heap.objs.size → s.heap.get? b = some o → h₁.get? b = some o := fun b o hb e => hs₁.extBut b o hb (Heap.get?_push_of_some _ e)
  refine wpAny_bind (wpAny_holding (tup_end_hot ⟨hh, o1, vs1, k1 _ _ hxn g1, g2, g3⟩ hit₁ ((ht.push _).extBut hs₁.extBut hlt) (by simp) hxn fun h₂ he₂ => ?_))
  simp only [Option.isSome_none, Bool.false_eq_true, if_false]
  exact wpAny_pure (hQ h₂ fun b o hb e => he₂ b o hb (k1 b o hb e))
end
section
variable {X : Cx} {pos : Pos}
/-- a, b = x, y while the exception at x1 is handled -/
theorem ps_parH {i j : Nat} {x y : Str} {a b : Expr} {ta : TA} {px py pt : Pos} {kt k2 : Nat} {pt2 : Pos} {x1 : Addr} {oe : Obj} {vs0 : Array Value} (hp : (x1, oe) ∈ X.pn) (hd : oe.data = .fields vs0) (hctx : PXN.CtxN oe) (hhd : X.A.handled = some (.ref x1))
    (hN : X.N.Nodup) (hi : X.N[i]? = some x) (hj : X.N[j]? = some y) (hij : i ≠ j) (hx : X.env.scope.names.lookup x = some .local) (hy : X.env.scope.names.lookup y = some .local) (ha : PA X [a, b] ta)
    (hw : swappedStores [.Tuple [.Name x px, .Name y py] kt pt] (.Tuple [a, b] k2 pt2) X.env = pure (some [x, y]))
    (hs : swapsWithSole [.Tuple [.Name x px, .Name y py] kt pt] (.Tuple [a, b] k2 pt2) pos.line X.env = pure false) : PS X (.Assign [.Tuple [.Name x px, .Name y py] kt pt] (.Tuple [a, b] k2 pt2) pos) (tPar i j ta) := by
  refine ⟨fun pins s σ H D I h => ?_⟩
  rw [exec_Assign_arm]
  refine wpAny_bind (wpAny_standAt ?_)
  rw [hs]
  refine wpAny_bind (wpAny_pure ?_)
  rw [if_neg (by decide)]
  refine wpAny_bind (Tuple_ (thn (ha.run _ pins s σ H _ I h) fun us s1 ⟨vs, H1, I1, r1, v, w, e1, q1⟩ => ?_))
  subst e1
  have two : ∃ u1 u2, us = [u1, u2] ∧ RelV v u1 ∧ RelV w u2 := by
    cases r1 with
    | cons p q => cases q with
      | cons p' q' => cases q'; exact ⟨_, _, rfl, p, p'⟩
  obtain ⟨u1, u2, rfl, rv, rw'⟩ := two
  refine wpAny_newObj_type ?_ (by show 2 ≤ sizeLine; decide)
  have I2 : Inv X pins σ H1 { s1 with heap := s1.heap.push { cls := .type "tuple", data := .seq [u1, u2].toArray } } := I1.kept (t' := s1.toks) fun b o e => Heap.get?_push_of_some _ e
  rw [hw]
  refine wpAny_bind (wpAny_pure ?_)
  show wpAny _ _ (do rule "assign.swapped-stores"; let its ← unpackItems (.ref s1.heap.objs.size) 2 none; assignInOrder [fun v => bindName X.env y v, fun v => bindName X.env x v] its.reverse; pure Flow.next) _ _ _
  obtain ⟨hx1, _⟩ := I2.pin (x1, oe) (List.mem_append_left _ hp)
  refine wpAny_bind (wpAny_rule ?_)
  refine wpAny_bind (unpack_hot (items := #[u1, u2]) (x1 := x1) ⟨hhd, oe, vs0, hx1, hd, hctx vs0 hd⟩ (IsTup.new s1.heap _) fun h' hx' => ?_)
  have I3 := I2.kept (h' := h') (t' := s1.toks) fun b o e => hx' b o (Nat.ne_of_lt (Heap.lt_size e)) e
  show wpAny _ _ (assignInOrder [fun v => bindName X.env y v, fun v => bindName X.env x v] [u2, u1] >>= fun _ => pure Flow.next) _ _ _
  refine wpAny_bind ?_
  refine assignInOrder_cons (wpAny_bindName (store_ok I3 hN hj (.inl hy) rw' (fun s2 I4 => ?_) (.inr hy)))
  refine assignInOrder_cons (wpAny_bindName (store_ok I4 hN hi (.inl hx) rv (fun s3 I5 => assignInOrder_nil (wpAny_pure ?_)) (.inr hx)))
  rw [List.set_comm _ _ (Ne.symm hij)] at I5
  exact ⟨_, H1, I5, q1⟩
end
end PyX
namespace Py
open PySem (Addr Value Obj Expr Pos Stmt)
section
variable {X : L2.Cx} {G : Gt} {T : Tb} {k : Cxt} {pos : Pos} {e1 e2 e3 : Expr} {as : Ex}
theorem ss_parN {is : List Nat} {st : Stmt} {a : Ex} (h : parOk k is = false) : SS X G k.xc st (run T (.par is a) k) := fun W' tk => ⟨fun pins s σ H D I q => by
  obtain ⟨al, ρ, hh, a, p⟩ := q
  simp [run, h, PostS] at p⟩
theorem ss_par2A {i j : Nat} {x y : PySem.Str} {px py pt : Pos} {kt k2 : Nat} {pt2 : Pos} (hc : k.calm = true → X.calm = true) (hN : X.N.Nodup) (hi : X.N[i]? = some x) (hj : X.N[j]? = some y) (hij : i ≠ j)
    (hx : X.env.scope.names.lookup x = some .local) (hy : X.env.scope.names.lookup y = some .local) (ha : SA X G k.xc [e1, e2] (evs T k as))
    (hw : PySem.swappedStores [.Tuple [.Name x px, .Name y py] kt pt] (.Tuple [e1, e2] k2 pt2) X.env = pure (some [x, y]))
    (hs : PySem.swapsWithSole [.Tuple [.Name x px, .Name y py] kt pt] (.Tuple [e1, e2] k2 pt2) pos.line X.env = pure false)  :
    SS X G k.xc (.Assign [.Tuple [.Name x px, .Name y py] kt pt] (.Tuple [e1, e2] k2 pt2) pos) (run T (.par [i, j] as) k) := by
  by_cases hk : k.calm = true
  · exact ss_par2 hk hc hN hi hj hij hx hy ha hw hs
  cases hp : parOk k [i, j] with
  | false => exact ss_parN hp
  | true =>
  intro W' tk
  cases hxc : k.xc with
  | none => exact absurd (by rw [Cxt.calm, hxc]) hk
  | some z =>
  obtain ⟨q, c, fs⟩ := z
  have hn : q ≠ i ∧ q ≠ j := by
    unfold parOk at hp
    rw [hxc] at hp
    simpa using hp
  rw [← hxc]
  refine ⟨fun pins s σ H D I h => ?_⟩
  obtain ⟨al, ρ, h, a, p⟩ := h
  have xs := a.xs
  rw [hxc] at xs
  obtain ⟨b, oe, vs, hpn, hσ, hdat, ⟨hctx, hhd⟩, _⟩ := xs
  have P : L2.PS X (.Assign [.Tuple [.Name x px, .Name y py] kt pt] (.Tuple [e1, e2] k2 pt2) pos) (tS X G k.xc W' (run T (.par [i, j] as) k)) := ps_imp (PyX.ps_parH (pos := pos) hpn hdat hctx hhd hN hi hj hij hx hy (ha W' tk) hw hs) fun D σ H q => by
    obtain ⟨al, ρ, h, a, p⟩ := q
    simp only [run, hp, if_true] at p
    refine rd_stmA a p fun al1 H1 ws h1 vs x1 a1 r p1 => ?_
    split at p1
    · rename_i hl
      cases r with
      | nil => simp at hl
      | cons r1 r => cases r with
        | nil => simp at hl
        | cons r2 r => cases r with
          | cons => simp at hl
          | nil =>
        refine ⟨_, _, rfl, p1 al1 H1 _ .refl (at_set (at_set a1 r1 fun j' c' fs' e => ?_) r2 fun j' c' fs' e => ?_)⟩
        · rw [hxc] at e; cases e; exact fun z => hn.1 z.symm
        · rw [hxc] at e; cases e; exact fun z => hn.2 z.symm
    · exact p1.elim
  exact P.run pins s σ H D I ⟨al, ρ, h, a, p⟩
end
end Py

namespace PyX
open PySem PySem.Spec PyProof.Rows L2 PySem.W PySem.HandSPX
def oexB (K : PySem.W.Frag) (C : Addr) : Bool := (match K.lookup C with
  | some ⟨.type "type", _, .cls cd, sl⟩ => (match cd.mro, sl.toList with
    | .ref C' :: bm, [_, _, _, _, some (.builtin n), _] => decide (C' = C) && (decide (n = "ValueError.__new__") && (!cd.hasDel && (cd.hasDict && refsVE bm)))
    | _, _ => false)
  | _ => false) && (He.eqO (PySem.W.findIn K (.ref C) "__setattr__") (some (some (.builtin "object.__setattr__"))) && (decide (PySem.W.subIn K (.ref C) (.type "BaseException") = some true) && (decide (PySem.W.typeIn K (.ref C) = some (.type "type")) && PySem.W.keepIn K (.ref C))))
theorem oexB_ok {K : PySem.W.Frag} {C : Addr} (h : oexB K C = true) : OexC K C := by
  unfold oexB at h
  simp only [Bool.and_eq_true] at h
  obtain ⟨h1, h2, h3, h4, h5⟩ := h
  refine ⟨?_, He.eqO_ok h2, of_decide_eq_true h3, of_decide_eq_true h4, h5⟩
  split at h1
  · rename_i dd cd sl ho
    split at h1
    · rename_i C' bm k0 k1 k2 k3 n k5 hm hs
      simp only [Bool.and_eq_true, decide_eq_true_eq, Bool.not_eq_true'] at h1
      obtain ⟨rfl, rfl, hdel, hdict, hre⟩ := h1
      obtain ⟨nm, bs, mro, ns, qn, hd, sn, sub, ab, col, del⟩ := cd
      simp only at hm hdel hdict
      subst hm hdel hdict
      obtain ⟨l⟩ := sl
      simp only at hs
      subst hs
      exact ⟨nm, qn, ns, bs, bm, sn, sub, ab, col, dd, k0, k1, k2, k3, k5, ho, hre⟩
    · cases h1
  · cases h1
/-- the body, looked at -/
def bodyB (sa : Str) (fs : List (Str × Str)) : List Stmt → Bool
  | [.Expr (.Call (.Attribute (.Call (.Name su _) [] [] _) ini p2) [.Name sa' _] [] p4) _, .Assign [.Attribute (.Name se _) f _] (.Name y _) _] =>
    decide (su = "super") && (decide (ini = "__init__") && (decide (sa' = sa) && (decide (se = "self") && ((p2.endLine == p4.line) && decide (fs = [(f, y)])))))
  | [.Expr (.Call (.Attribute (.Call (.Name su _) [] [] _) ini p2) [.Name sa' _] [] p4) _, .Assign [.Tuple [.Attribute (.Name se _) f _, .Attribute (.Name se2 _) g _] _ _] (.Tuple [.Name y _, .Name z _] _ _) _] =>
    decide (su = "super") && (decide (ini = "__init__") && (decide (sa' = sa) && (decide (se = "self") && (decide (se2 = "self") && ((p2.endLine == p4.line) && decide (fs = [(f, y), (g, z)]))))))
  | _ => false
theorem bodyB_ok {sa : Str} {fs : List (Str × Str)} {b : List Stmt} (h : bodyB sa fs b = true) : BodyI sa fs b := by
  unfold bodyB at h
  split at h
  · simp only [Bool.and_eq_true, decide_eq_true_eq] at h
    obtain ⟨rfl, rfl, rfl, rfl, hl, rfl⟩ := h
    exact .one hl
  · simp only [Bool.and_eq_true, decide_eq_true_eq] at h
    obtain ⟨rfl, rfl, rfl, rfl, rfl, hl, rfl⟩ := h
    exact .two hl
  · cases h
def fileB (K : PySem.W.Frag) (c : Addr) (file : Str) : Bool := match K.lookup c with
  | some ⟨_, _, .fields vs, _⟩ => (match (vs[2]? : Option Value) with
    | some (.str f _) => file == f
    | _ => false)
  | _ => false
def cellB (K : PySem.W.Frag) (cc C : Addr) : Bool := match K.lookup cc with
  | some ⟨_, _, .cell (some (.ref C')), _⟩ => decide (C' = C)
  | _ => false
/-- the parameters' lists that are known -/
def knownPs : List (List Str) := [["self", "part"], ["self", "line"], ["self", "how", "why"]]
theorem known_bnd {ps : List Str} (h : ps ∈ knownPs) : BndI ps := by
  simp only [knownPs, List.mem_cons, List.not_mem_nil, or_false] at h
  rcases h with rfl | rfl | rfl
  · exact bnd_part
  · exact bnd_line
  · exact bnd_how
def iniFnB (K : PySem.W.Frag) (file : Str) (C : Addr) (ps : List Str) (sa : Str) (fs : List (Str × Str)) : Option Obj → Bool
  | some ⟨.type "function", _, .func ⟨_, q, ⟨[], as, none, [], [], none, []⟩, .stmts body, sc, gl, [(cn, cc)], .none, .none, _, _, none, .ref c, _, bl⟩, _⟩ =>
    decide (cn = kcl) && (decide (gl = mainGlobals) && (decide (bl = builtinsNs) && (PySem.W.codeIn K (.ref c) q && (fileB K c file && (cellB K cc C && (NdefX.nscB (ps ++ [kcl]) ps [kcl] sc &&
      (decide (sc.names.lookup ("super" : Str) = some .globalImplicit) && (decide (as.map (·.arg) = ps) && bodyB sa fs body))))))))
  | _ => false
def iniB (K : PySem.W.Frag) (file : Str) (C : Addr) (ps : List Str) (sa : Str) (fs : List (Str × Str)) : Bool :=
  iniFnB K file C ps sa fs (K.lookup (He.ma K C "__init__")) && (oexB K C && (He.eqO (PySem.W.findIn K (.ref C) "__init__") (some (some (.ref (He.ma K C "__init__")))) && (decide (PySem.W.typeIn K (.ref (He.ma K C "__init__")) = some (.type "function")) &&
    ((PySem.W.clsIn K C).isSome && (decide (PySem.W.mroIn K C (.ref C) = some true) && (decide (PySem.W.ks_superIn K C C "__init__" = some (some (.builtin "ValueError.__init__"))) && (He.eqO (PySem.W.nsIn K cStatics "thirdparty.any") (some none) &&
    (decide (PySem.W.subIn K (.ref C) (.type "ValueError") = some true) && (He.eqO (PySem.W.nsIn K mainGlobals "super") (some none) && (decide (ps ∈ knownPs) && (decide (sa ∈ ps) && (fs.all (fun q => decide (q.2 ∈ ps) && He.eqO (PySem.W.findIn K (.ref C) q.1) (some none)) && (ps.all nameOk && xfB K C)))))))))))))
/-- the program's file, and that super is nobody's name -/
def progB (P : Program) (file : Str) : Bool := ((P.main.file : Str) == file) && !(P.main.scope.names.lookup ("super" : Str)).isSome
theorem iniFn_ok {K : PySem.W.Frag} {file : Str} {C : Addr} {ps : List Str} {sa : Str} {fs : List (Str × Str)} {o : Option Obj} (h : iniFnB K file C ps sa fs o = true) :
    ∃ (F : NdefX.NF) (cc : Addr) (od : Option Addr) (sl : Array (Option Value)) (doc pm ctv : Value), o = some (⟨.type "function", od, .func (F.fd doc pm ctv), sl⟩ : Obj) ∧ F.cl = [(kcl, cc)] ∧ PySem.W.codeIn K (.ref F.c) F.qual = true ∧ fileB K F.c file = true ∧ cellB K cc C = true ∧
      NdefX.NScope (ps ++ [kcl]) ps [kcl] F.scope ∧ F.scope.names.lookup ("super" : Str) = some .globalImplicit ∧ (∃ as, F.params = ⟨[], as, none, [], [], none, []⟩ ∧ as.map (·.arg) = ps) ∧ BodyI sa fs F.body := by
  unfold iniFnB at h
  split at h
  · rename_i od nm q as body sc gl cn cc doc pm c ctv bl sl
    simp only [Bool.and_eq_true, decide_eq_true_eq] at h
    obtain ⟨rfl, rfl, rfl, h4, h5, h6, h7, h8, h9, h10⟩ := h
    exact ⟨⟨nm, q, ⟨[], as, none, [], [], none, []⟩, body, sc, [(kcl, cc)], c⟩, cc, od, sl, doc, pm, ctv, rfl, rfl, h4, h5, h6, NdefX.nscope_by h7, h8, ⟨as, rfl, h9⟩, bodyB_ok h10⟩
  · cases h
end PyX
namespace Py
open PySem (Addr Value Obj Expr Pos Stmt)
open PySem PySem.Spec PyProof.Rows L2 PyX in
theorem ini_of {P : Program} {K : PySem.W.Frag} {C : Addr} {file : Str} {ps : List Str} {sa : Str} {fs : List (Str × Str)} {G : Gt} {n : Nat} {l : List (Nat × Nat)} (hP : progB P file = true) (h : iniB K file C ps sa fs = true) (hn : ps.length = n + 1)
    (hl : Fa2 (fun (q : Str × Str) (r : Nat × Nat) => q.1 = G.fnm r.1 ∧ ps[r.2 + 1]? = some q.2) fs.reverse l) :
    (∃ (fI cc : Addr) (F : NdefX.NF) (ps : List Str) (sa : Str) (fs : List (Str × Str)) (od : Option Addr) (sl : Array (Option Value)) (doc pm ctv : Value), PyX.IniF P K C fI cc F ps sa ∧
    K.lookup fI = some (⟨.type "function", od, .func (F.fd doc pm ctv), sl⟩ : Obj) ∧ PyX.BodyI sa fs F.body ∧ sa ∈ ps ∧ (∀ q ∈ fs, q.2 ∈ ps ∧ PySem.W.findIn K (.ref C) q.1 = some none) ∧ ps.all PyX.nameOk = true ∧
    PySem.W.findIn K (.ref C) "__init__" = some (some (.ref fI)) ∧ PySem.W.typeIn K (.ref fI) = some (.type "function") ∧ PyX.BndI ps ∧ (∃ as, F.params = ⟨[], as, none, [], [], none, []⟩ ∧ as.map (·.arg) = ps) ∧
    ps.length = n + 1 ∧ Fa2 (fun (q : Str × Str) (r : Nat × Nat) => q.1 = G.fnm r.1 ∧ ps[r.2 + 1]? = some q.2) fs.reverse l ∧ ps.Nodup) ∧ PySem.W.nsIn K mainGlobals "super" = some none ∧ L2.XfC K C ∧ ∀ q ∈ fs, PySem.W.findIn K (.ref C) q.1 = some none := by
  unfold iniB at h
  simp only [Bool.and_eq_true, decide_eq_true_eq, List.all_eq_true] at h
  obtain ⟨h1, h2, h3, h4, h5, h6, h7, h8, h9, h10, h11, h12, h13, h14, h15⟩ := h
  obtain ⟨F, cc, od, sl, doc, pm, ctv, e, g1, g2, g3, g4, g5, g6, g7, g8⟩ := iniFn_ok h1
  have hs2 : ∀ q ∈ fs, q.2 ∈ ps ∧ PySem.W.findIn K (.ref C) q.1 = some none := fun q hq => ⟨(h13 q hq).1, He.eqO_ok (h13 q hq).2⟩
  obtain ⟨hp1, hp2⟩ := Bool.and_eq_true_iff.mp hP
  have hself : ∃ qs, ps = ("self" : Str) :: qs := by
    simp only [knownPs, List.mem_cons, List.not_mem_nil, or_false] at h11
    rcases h11 with rfl | rfl | rfl <;> exact ⟨_, rfl⟩
  have hnd : ps.Nodup := by
    simp only [knownPs, List.mem_cons, List.not_mem_nil, or_false] at h11
    rcases h11 with rfl | rfl | rfl <;> decide +kernel
  have gfile : ∃ (ccl : Value) (cdd : Option Addr) (vs : Array Value) (ccs : Array (Option Value)) (file : Str) (tf : Tok), K.lookup F.c = some (⟨ccl, cdd, .fields vs, ccs⟩ : Obj) ∧ vs[2]? = some (.str file tf) ∧ ((P.main.file : Str) == file) = true := by
    unfold fileB at g3
    split at g3
    · rename_i a1 a2 vs a3 ho
      split at g3
      · rename_i f tf hv
        exact ⟨a1, a2, vs, a3, f, tf, ho, hv, by rw [eq_of_beq hp1]; exact g3⟩
      · cases g3
    · cases g3
  have gcell : ∃ (c : Value) (cld : Option Addr) (csl : Array (Option Value)), K.lookup cc = some (⟨c, cld, .cell (some (.ref C)), csl⟩ : Obj) := by
    unfold cellB at g4
    split at g4
    · rename_i a1 a2 C' a3 ho
      have := of_decide_eq_true g4
      subst this
      exact ⟨a1, a2, a3, ho⟩
    · cases g4
  have gpar : ∃ ar as, F.params.posonlyargs ++ F.params.args = ar :: as ∧ ar.arg = ("self" : Str) := by
    obtain ⟨as, e1, e2⟩ := g7
    obtain ⟨qs, e3⟩ := hself
    rw [e1]
    cases as with
    | nil => rw [e3] at e2; cases e2
    | cons ar as =>
      rw [e3] at e2
      exact ⟨ar, as, rfl, (List.cons.inj e2).1⟩
  refine ⟨⟨_, cc, F, ps, sa, fs, od, sl, doc, pm, ctv, ⟨g1, ⟨od, sl, doc, pm, ctv, e⟩, g2, gfile, gcell, g5, g6, gpar, hself, Option.isSome_iff_exists.mp h5, h6, h7, He.eqO_ok h8, h9, oexB_ok h2, He.eqO_ok h10, by simpa using hp2⟩, e, g8, h12, hs2, List.all_eq_true.mpr h14, He.eqO_ok h3, h4, known_bnd h11, g7, hn, hl, hnd⟩, He.eqO_ok h10, L2.xfB_ok h15, fun q hq => (hs2 q hq).2⟩
end Py

namespace Py
open PySem (Addr Value Obj Expr Pos Stmt)
theorem join_eqS (s : String) : ∀ l : List String, PySem.Str.join (S s) (l.map S) = S (joinL s l)
  | [] => rfl
  | [_] => rfl
  | x :: y :: r => by
    show S x ++ S s ++ PySem.Str.join (S s) ((y :: r).map S) = S (x ++ s ++ joinL s (y :: r))
    rw [join_eqS s (y :: r), S_app, S_app]
section
variable {X : L2.Cx} {G : Gt}
theorem ms_join : MetS X G "str" (fun x xs H Q => ∃ a p, ∃ ys : List PySem.Str, x = .str a ∧ xs = [.ref p] ∧ (L2.SqL X.K H p (ys.map L2.V.str) ∨ L2.SqT X.K H p (ys.map L2.V.str)) ∧ (ys.map (·.length)).sum + ys.length * a.length ≤ 16777216 ∧ Q (.str (PySem.Txt.join a ys)) H) .join := by
  refine ⟨str_ty fun h o e => ?_, fun al H h o ws v vs Q s r rl p => ?_⟩
  · cases o <;> first | exact ⟨_, rfl⟩ | cases e
  · rcases ws with _ | ⟨w, _ | ⟨w2, rest⟩⟩
    · cases o <;> exact (show False from p).elim
    · obtain ⟨u, rfl, rv⟩ := rl.one
      cases o with
      | str t =>
        cases r
        simp only [wBm] at p
        split at p
        · rename_i xs et
          split at p
          · rename_i l el
            split at p
            · rename_i hle
              obtain ⟨pa, va, rfl, sa, la⟩ := deref_lst s rv et
              have hv := la.strs el
              subst hv
              refine ⟨_, pa, l.map S, rfl, rfl, .inl (.inl (.inl (by rw [List.map_map]; exact sa))), ?_, ?_⟩
              · have e1 : (l.map S).map (·.length) = l.map String.length := by
                  rw [List.map_map]; congr 1; funext z; exact S_len z
                rw [e1, List.length_map, S_len]; exact hle
              · rw [show PySem.Txt.join (S t) (l.map S) = PySem.Str.join (S t) (l.map S) from TL.join_eq _ _, join_eqS]
                exact p al H _ .refl s (.str _)
            · exact p.elim
          · exact p.elim
        · exact p.elim
      | _ => exact (show False from p).elim
    · cases o <;> first | exact (show False from p).elim | (cases w <;> exact (show False from p).elim)
/-- a written dict with text keys, as it stands -/
structure DicF (K : Frag) (w : PySem.World) (a : Addr) (kvs : List (String × W)) : Prop where
  ex : ∃ es n, L2.KDict K w a es n
  val : ∀ s : String, match sGet s kvs with
    | some u => ∃ v x, PySem.W.nsIn K a (S s) = some (some x) ∧ L2.RelV v x ∧ ∀ H al, Rep K H al v u
    | none => PySem.W.nsIn K a (S s) = some none
open PySem PySem.Spec PyProof.Rows in
theorem se_kget {T : Tb} {k : Cxt} {kvs : List (String × W)} {a : Addr} {x : Str} {e2 : Expr} {x2 : Ex} {p0 apos pos : Pos} (D : DicF X.K X.w a kvs) (hg : L2.Gl X x) (hm : X.mg x = some (.ref a)) (hd : (x == ("__debug__" : Str)) = false) (h2 : SE X G k.xc e2 (ev T k x2)) (f : McF X (.Name x p0) "get" apos [e2] pos) :
    SE X G k.xc (.Call (.Attribute (.Name x p0) "get" apos) [e2] [] pos) (ev T k (.kget kvs x2)) := fun W' tk => by
  refine ⟨fun pins s σ H Q I q => ?_⟩
  obtain ⟨al, ρ, h, at_, p⟩ := rd_at q
  simp only [ev] at p
  split at p
  case isFalse => exact p.elim
  obtain ⟨es, n, KD⟩ := D.ex
  have M1 := m1_of f
  refine wpAny_Call_method M1.base M1.few M1.line PySem.F.plainAttrs_dict PySem.F.slot_dict_get PySem.F.type_dict_get (L2.ld_glob I hg hm ?_ hd)
  have hmap : ∀ {s' : Shared}, X.K.In s'.heap → s'.heap.MapOf (strKind X.prog X.w) a (fun z => findBy Value.isStrOf es z) := fun {s'} KX => PySem.W.mapOf_K KX KD.at_ KD.lit
  have tI : ∀ t, Shared.TypeIs { s with toks := t } (.ref a) "dict" := fun t => (hmap (s' := { s with toks := t }) I.kIn).typeIs
  refine ⟨?_, fun b z => ?_, ?_⟩
  · exact (hmap I.kIn).typeIs
  · cases z
    exact ⟨_, I.kIn _ _ KD.at_, rfl⟩
  · rw [M1.trees]
    refine Calls.callWith_builtin rfl (Calls.evalArgs_plain (Calls.spliced_cons ((L2.thn ((h2 W' tk).run pins _ σ H (fun y H1 => ∃ (z : String), y = .str (S z) ∧ ∀ v, (match sGet z kvs with | some u => (∀ H' al', Rep X.K H' al' v u) → Q v H1 | none => v = .non → Q v H1)) (by first | exact I | exact I.tok _) ?_) fun iv s2 ⟨y, H2, I2, ry, z, ey, q2⟩ => Calls.spliced_nil ?_))))
    · refine rd_bind at_ p fun al1 H1 w1 h1 v1 y1 a1 r1 p1 => ?_
      cases r1 with
      | str z =>
        refine ⟨z, rfl, fun v => ?_⟩
        have p2 := p1.fin a1
        cases e : sGet z kvs with
        | some u => rw [e] at p2; exact fun r => p2 v (r _ _)
        | none => rw [e] at p2; exact fun e => p2 v (by rw [e]; exact .non)
      | _ => exact p1.elim
    · subst ey
      obtain ⟨tk2, rfl⟩ := ry
      have hm2 := hmap I2.kIn
      have dv := D.val z
      refine call_meetsIn PySem.F.slot_dict_get hm2.typeIs PySem.F.entry_dict_get (PySem.F.args_dict_get_2 _ _) (meets_dict_get (strKind X.prog X.w) a (strKind_is X.prog X.w (S z) tk2) KD.low) ⟨_, hm2, ?_⟩
      cases e : sGet z kvs with
      | some u =>
        rw [e] at dv
        have q2 := q2
        obtain ⟨v, y, e1, rv, rp⟩ := dv
        rw [PySem.W.find_K KD.at_ e1]
        refine ⟨v, H2, I2.tok _, rv, ?_⟩
        have q3 := q2 v
        rw [e] at q3
        exact q3 rp
      | none =>
        rw [e] at dv
        rw [PySem.W.find_K KD.at_ dv]
        refine ⟨.non, H2, I2.tok _, rfl, ?_⟩
        have q3 := q2 .non
        rw [e] at q3
        exact q3 rfl
end
end Py

namespace Py
open PySem PySem.Froz
open L2 (Ris)
/-- the set is laid at a, its table rises -/
def TxR (p : Program) (w : World) (h : Heap) (a : Addr) (l : List Str) : Prop :=
  ∃ D : PySem.Froz.SD, h.get? a = some (sObj "set" D) ∧ TxOk p w D l ∧ Ris D.2.2.place.toList ∧ (w.params.followText "set-order" = true ∨ D.2.2.led = true)
theorem ris_tail (ep : Nat) (es : Array (Int × Value)) (t : SetTable) (c : Bool) (r : Ris t.place.toList) : Ris (tailTx ep es t c).2.2.place.toList := by
  unfold tailTx
  split
  · exact L2.relayAll_ris _ _ _
  · exact r
theorem led_tail (ep : Nat) (es : Array (Int × Value)) (t : SetTable) (c : Bool) : (tailTx ep es t c).2.2.led = t.led := by
  unfold tailTx
  split
  · exact L2.relayAll_led _ _ _
  · rfl
theorem ris_addTx (x : Int) (v : Value) (D : PySem.Froz.SD) (r : Ris D.2.2.place.toList) : Ris (addTx x v D).2.2.place.toList := by
  obtain ⟨es, ep, t⟩ := D
  have q := L2.layNew_ris t es x v r
  unfold addTx
  refine ris_tail _ _ _ _ ?_
  split
  · exact q
  · exact q
theorem led_addTx (x : Int) (v : Value) (D : PySem.Froz.SD) : (addTx x v D).2.2.led = D.2.2.led := by
  obtain ⟨es, ep, t⟩ := D
  have q := L2.layNew_led t es x v
  unfold addTx
  rw [led_tail]
  split
  · exact q
  · exact q
section
variable {p : Program} {w : World} {A : Around} {E : Value → Shared → Prop} {s : Shared}
theorem TxR.on {h h' : Heap} {a : Addr} {l : List Str} (R : TxR p w h a l) (k : ∀ o, h.get? a = some o → h'.get? a = some o) : TxR p w h' a l := by
  obtain ⟨D, ho, r⟩ := R
  exact ⟨D, k _ ho, r⟩
/-- a text that is there already -/
theorem old_x {a : Addr} {D : PySem.Froz.SD} {l : List Str} {k : Str} {u : Tok} {Q : Bool → Shared → Prop} (ho : s.heap.get? a = some (sObj "set" D)) (F : TxOk p w D l) (hk : k ∈ l) (hb : l.length < scanBound)
    (hq : Q false s) : wpAny (model p w) A (setAddHashed a (.str k u) (hashStr w k)) Q E s := by
  obtain ⟨es, ep, t⟩ := D
  have hd : (sObj "set" (es, ep, t)).data = .set es ep t := rfl
  have hf : t.fits es.size = true := F.fit
  have hel := F.el
  have hz : es.size = l.length := F.sz
  have hkey : (strKind p w).is k (.str k u) = true := is_str k u
  obtain ⟨j, hj⟩ : ∃ j, List.findIdx? (fun e => (strKind p w).is k e.2) es.toList = some j := by
    obtain ⟨e, he, q⟩ := (F.mem k).mp hk
    cases hr : List.findIdx? (fun e => (strKind p w).is k e.2) es.toList with
    | some j => exact ⟨j, rfl⟩
    | none => exact absurd q (by simpa using List.findIdx?_eq_none_iff.mp hr e he)
  unfold setAddHashed setAddHashedIn
  refine wpAny_holding (wpAny_bind (wpAny_setState_of ho hd hf ?_))
  dsimp only
  rw [byScan_of (knd := strKind p w) rfl (show es.size < scanBound by omega) hel]
  simp only [↓reduceIte]
  unfold setAddByScan
  refine wpAny_bind (wpAny_bind (wpAny_rule (wpAny_bind ?_)))
  refine wpAny_setScan_of (knd := strKind p w) (k := k) hkey ho hd hf hel ?_
  rw [hj]
  dsimp only
  exact wpAny_pure (wpAny_pure hq)
/-- setAdd -/
theorem txr_add {a : Addr} {l : List Str} {k : Str} {u : Tok} {Q : Bool → Shared → Prop} (R : TxR p w s.heap a l) (hb : l.length + 1 < scanBound)
    (hq : ∀ b h', Heap.SameBut a s.heap h' → TxR p w h' a (if k ∈ l then l else k :: l) → Q b { s with heap := h' }) : wpAny (model p w) A (setAddHashed a (.str k u) (hashStr w k)) Q E s := by
  obtain ⟨D, ho, F, r, d⟩ := R
  by_cases c : k ∈ l
  · refine old_x ho F c (by omega) ?_
    have q := hq false s.heap (Heap.SameBut.refl a s.heap)
    rw [if_pos c] at q
    exact q ⟨D, ho, F, r, d⟩
  · refine add_x ho F c hb ?_
    have q := hq true (s.heap.update a (fun _ => sObj "set" (addTx (hashStr w k) (.str k u) D))) (Heap.SameBut.update s.heap a _)
    rw [if_neg c] at q
    exact q ⟨_, get_upd _ ho rfl, add_ok u F, ris_addTx _ _ _ r, d.imp id fun z => (led_addTx _ _ _).trans z⟩
/-- what stands in the set behind these -/
def gath : List Str → List Str → List Str
  | l, [] => l
  | l, k :: r => gath (if k ∈ l then l else k :: l) r
theorem gath_len : ∀ (r l : List Str), (gath l r).length ≤ l.length + r.length
  | [], l => Nat.le_refl _
  | k :: r, l => by
    have q := gath_len r (if k ∈ l then l else k :: l)
    rw [gath]
    refine Nat.le_trans q ?_
    split
    · simp only [List.length_cons]; omega
    · simp only [List.length_cons]; omega
theorem gath_mem (x : Str) : ∀ (r l : List Str), x ∈ gath l r ↔ x ∈ l ∨ x ∈ r
  | [], l => by simp [gath]
  | k :: r, l => by
    rw [gath, gath_mem x r]
    split
    · rename_i c
      constructor
      · rintro (z | z)
        · exact .inl z
        · exact .inr (List.mem_cons_of_mem _ z)
      · rintro (z | z)
        · exact .inl z
        · rcases List.mem_cons.mp z with e | z
          · exact .inl (e ▸ c)
          · exact .inr z
    · rw [List.mem_cons, List.mem_cons]
      constructor
      · rintro ((z | z) | z)
        · exact .inr (.inl z)
        · exact .inl z
        · exact .inr (.inr z)
      · rintro (z | z | z)
        · exact .inl (.inr z)
        · exact .inl (.inl z)
        · exact .inr z
theorem gath_nodup : ∀ (r l : List Str), l.Nodup → (gath l r).Nodup
  | [], l, h => h
  | k :: r, l, h => by
    rw [gath]
    refine gath_nodup r _ ?_
    split
    · exact h
    · rename_i c
      exact List.nodup_cons.mpr ⟨c, h⟩
end
section
variable {p : Program} {w : World} {A : Around} {R : Result → Shared → Prop} {I : Addr} {fp wr : List Addr} {G : Array GenState → Array GenState → Prop} {n : Nat} {V : Nat → Value → Prop} {St : Nat → Shared → Prop}
theorem upd_texts (W : WalksS p w A.in1 I fp wr G n V St) (S : Addr) (hSf : S ∉ fp) (xs : List Str) (hn : n = xs.length)
    (hval : ∀ i v, V i v → ∃ k t, xs[i]? = some k ∧ v = .str k t) :
    ∀ (r : List Str) (l : List Str) (i : Nat) (s : Shared), xs.drop i = r → i ≤ n → l.length + r.length + 1 < scanBound → St i s → TxR p w s.heap S l →
      (∀ s', Moved (S :: wr) G s s' → TxR p w s'.heap S (gath l r) → R (.ok (.ret .none)) s') →
      codeAny (model p w) A (.builtin "set.update.loop" ⟨[.ref S, .ref I], []⟩) R s := by
  have nw : S ∉ wr := fun h => hSf (W.sub _ h)
  have up : ∀ b ∈ wr, b ∈ S :: wr := fun b hb => List.mem_cons_of_mem _ hb
  intro r
  induction r with
  | nil =>
    intro l i s hd hi hz hst hS hR
    have e : i = n := by
      have := List.drop_eq_nil_iff.mp hd
      omega
    subst e
    refine codeAny_builtin PyProof.Rows.F.entry_set_update_loop ?_
    rw [Around.under_plainId PyProof.Rows.F.plain_set_update_loop _]
    refine wpAny_bind (m := pyNext (.ref I)) (W.done s _ _ hst fun s' hm => ?_)
    refine wpAny_pure (hR s' (hm.mono up) ?_)
    exact hS.on fun o e => hm.heap S o nw e
  | cons k r ih =>
    intro l i s hd hi hz hst hS hR
    have hlt : i < xs.length := by
      rcases Nat.lt_or_ge i xs.length with c | c
      · exact c
      · rw [List.drop_eq_nil_of_le c] at hd; cases hd
    have hd' := List.drop_eq_getElem_cons hlt
    rw [hd] at hd'
    injection hd' with e1 e2
    refine codeAny_builtin PyProof.Rows.F.entry_set_update_loop ?_
    rw [Around.under_plainId PyProof.Rows.F.plain_set_update_loop _]
    refine wpAny_bind (m := pyNext (.ref I)) (W.item i s _ _ (hn ▸ hlt) hst fun v s' hP hst' hm => ?_)
    obtain ⟨z, t, hz', rfl⟩ := hval i v hP
    have ez : z = k := by
      rw [List.getElem?_eq_getElem hlt] at hz'
      rw [e1]; exact (Option.some.inj hz').symm
    subst ez
    have hS' : TxR p w s'.heap S l := hS.on fun o e => hm.heap S o nw e
    refine wpAny_bind (m := holding [Value.str z t] (setAdd S (.str z t))) (wpAny_holding ?_)
    unfold setAdd
    refine wpAny_holding (wpAny_bind ((strKind p w).pyHash (k := z) (is_str _ _) ?_))
    refine txr_add (s := { s' with toks := s'.toks + 1 }) hS' (by simp only [List.length_cons] at hz; omega) fun b h' sb hS2 => ?_
    refine wpAny_pure ⟨plainId_quiet PyProof.Rows.F.plain_set_update_loop _, ih _ (i + 1) _ e2.symm (by omega) ?_ (W.frame _ s' _ _ hst' (Nat.le_succ _) fun c hc o e => ?_) hS2 fun s2 hm2 hS3 => ?_⟩
    · simp only [List.length_cons] at hz
      split
      · omega
      · simp only [List.length_cons]; omega
    · rw [sb.2 c (fun h : c = S => hSf (h ▸ hc))]; exact e
    · refine hR s2 (Moved.trans W.gtrans ((hm.mono up).then_heap (Nat.le_succ _) fun c o hc e => ?_) hm2) hS3
      rw [sb.2 c (fun h : c = S => hc (h ▸ List.mem_cons_self))]; exact e
end
/-- a new set -/
def nset (w : World) : Obj := { cls := .type "set", dict := none, data := .set #[] 0 (.fresh 0 0 (!w.params.followText "set-order")) }
theorem nset_txr {p : Program} {w : World} {h : Heap} {a : Addr} (ho : h.get? a = some (nset w)) : TxR p w h a [] :=
  ⟨(#[], 0, .fresh 0 0 (!w.params.followText "set-order")), ho, TxOk.nil rfl, List.Pairwise.nil, by
    show _ ∨ (!w.params.followText "set-order") = true
    cases w.params.followText "set-order"
    · exact .inr rfl
    · exact .inl rfl⟩
theorem texts_at : ∀ {us : List Value} {xs : List Str}, PyProof.Rows.StrsAre us xs → ∀ (i : Nat) (v : Value), us[i]? = some v → ∃ k t, xs[i]? = some k ∧ v = .str k t
  | _, _, .nil, i, v, h => by simp at h
  | _, _, .cons n t r, 0, v, h => ⟨n, t, rfl, by simpa using h.symm⟩
  | _, _, .cons n t r, i + 1, v, h => texts_at r i v (by simpa using h)
section
variable {p : Program} {w : World} {A : Around} {E : Value → Shared → Prop} {s : Shared}
set_option maxHeartbeats 3200000 in
theorem call_set_texts {l : Addr} {items : Array Value} (xs : List Str) {Q : Value → Shared → Prop} (hh : A.handled = none) (hl : s.heap.IsList l items) (hit : PyProof.Rows.StrsAre items.toList xs) (hb : xs.length + 1 < scanBound)
    (hq : ∀ (h' : Heap) (tk : Nat), TxR p w h' s.heap.objs.size (gath [] xs) → (∀ b o, s.heap.get? b = some o → h'.get? b = some o) → Q (.ref s.heap.objs.size) { s with heap := h', toks := tk }) :
    wpAny (model p w) A (PySem.call (Value.type "set") [.ref l]) Q E s := by
  have isz : items.size = xs.length := by rw [← PyProof.Rows.StrsAre.len_eq hit, Array.length_toList]
  obtain ⟨c, tl, hmro⟩ := PySem.F.called_set.mro
  have made := PySem.F.called_set.made
  have subt := PySem.F.called_set.sub
  refine wpAny_call (codeAny_of_tree ?_)
  change wpAny (model p w) _ (callAny (Value.type "set") _) _ _ s
  refine wpAny_pure ⟨Code.quiet_builtin _ (by decide +kernel), codeAny_builtin PySem.F.entry_type_call ?_⟩
  rw [Around.under_plain (weight_type_call_type "set" [.ref l] []) rfl]
  have a1 := PySem.F.called_set.notType
  have a2 := PySem.F.called_set.canCreate
  have a3 := PySem.F.typeCall_set_1 (.ref l)
  repeat (any_goals (first | assumption | wp_step))
  refine codeAny_mono (L2.code_set_led1 (.ref l) (E := E) (Q₁ := fun obj t => obj = .ref s.heap.objs.size ∧ t = { s with heap := s.heap.push (nset w) }) ⟨rfl, rfl⟩) fun r t hr => ?_
  cases r with
  | error e => exact hr
  | ok fl =>
    cases fl with
    | ret obj =>
      obtain ⟨rfl, rfl⟩ := hr
      have hS : (s.heap.push (nset w)).get? s.heap.objs.size = some (nset w) := Heap.get?_push_size _ rfl
      have hT : Shared.TypeIs { s with heap := s.heap.push (nset w) } (.ref s.heap.objs.size) "set" := ⟨_, hS, rfl⟩
      have b1 := PySem.F.called_set.init.lookup
      have b2 := PySem.F.called_set.init.bind (.ref s.heap.objs.size)
      repeat (any_goals (first | assumption | wp_step))
      refine codeAny_mono (codeAny_call_builtin (R := wants (fun r t => r = .none ∧ ∃ h' tk, t = { s with heap := h', toks := tk } ∧ TxR p w h' s.heap.objs.size (gath [] xs) ∧ (∀ b o, s.heap.get? b = some o → h'.get? b = some o)) E)
        PySem.F.called_set.init.plain PySem.F.entry_set_init (check_set_init_1 hT ?_)) fun r2 t2 hr2 => ?_
      · obtain ⟨ol, hol, hcl, nl, hdl⟩ := hl
        obtain ⟨ocls, odict, odata, oslots⟩ := ol
        simp only at hcl hdl
        subst hcl; subst hdl
        have hol' : (s.heap.push (nset w)).get? l = some { cls := .type "list", dict := odict, data := .seq items nl, slots := oslots } := Heap.get?_push_of_some _ hol
        have c1 := PySem.F.sub_list_set
        have c2 := PySem.F.sub_list_frozenset
        have c3 : (Value.type "list" == Value.type "dict") = false := by decide
        have hl1 : (s.heap.push (nset w)).IsList l items := ⟨_, hol', rfl, nl, rfl⟩
        unfold Builtin.«set.__init__» noKeywords Builtin.Frozenset.updateFrom
        generalize hPI : pyIter = PI
        wp_walk
        subst hPI
        refine wpAny_pyIter_list hl1 (wpAny_bind (wpAny_runValue ?_))
        have hlS : l < s.heap.objs.size := Heap.lt_size hol
        have hh3 : A.in1.in1.in1.handled = none := by simp [hh]
        have hz : (s.heap.push (nset w)).objs.size = s.heap.objs.size + 1 := Heap.size_push ..
        have hneI : l ≠ (s.heap.push (nset w)).objs.size := by rw [hz]; exact Nat.ne_of_lt (Nat.lt_trans hlS (Nat.lt_succ_self _))
        have hSf : s.heap.objs.size ∉ [(s.heap.push (nset w)).objs.size, l] := by
          rw [hz]; simp only [List.mem_cons, List.mem_singleton, List.not_mem_nil, or_false, not_or]
          exact And.intro (Nat.ne_of_lt (Nat.lt_succ_self _)) (Nat.ne_of_gt hlS)
        refine upd_texts ((Walks.list hh3 _ l hneI items).toS) s.heap.objs.size hSf xs isz (fun i v hv => texts_at hit i v (by rw [Array.getElem?_toList]; exact hv)) xs [] 0 _ rfl (Nat.zero_le _) (by simpa using hb)
          ⟨⟨_, Heap.get?_push_size _ rfl, rfl, rfl⟩, (hl1.push _)⟩ (nset_txr (Heap.get?_push_of_some _ hS)) ?_
        intro t3 hm hS'
        obtain ⟨h', g2, d', tk', os'⟩ := t3
        have eg : g2 = s.gens := hm.gens
        have ed : d' = s.drawn := hm.drawn
        have eo : os' = s.os := hm.os
        subst eg; subst ed; subst eo
        refine wpAny_pure (wpAny_pure ⟨rfl, h', tk', rfl, hS', fun b o e => ?_⟩)
        have hb0 : b < s.heap.objs.size := Heap.lt_size e
        refine hm.heap b o ?_ (Heap.get?_push_of_some _ (Heap.get?_push_of_some _ e))
        simp only [List.mem_cons, List.mem_singleton, List.not_mem_nil, or_false, not_or]
        rw [hz]
        exact And.intro (Nat.ne_of_lt hb0) (Nat.ne_of_lt (Nat.lt_trans hb0 (Nat.lt_succ_self _)))
      · cases r2 with
        | error e => exact hr2
        | ok fl2 =>
          cases fl2 with
          | ret r =>
            obtain ⟨rfl, h', tk, rfl, hS', hk'⟩ := hr2
            repeat (any_goals (first | assumption | wp_step))
            exact hq _ _ hS' hk'
          | _ => exact hr2.elim
    | _ => exact hr.elim
end
end Py

namespace Py
open PySem PySem.Froz
open L2 (Ris)
theorem perm_of_sub : ∀ (l m : List Str), l.Nodup → (∀ x ∈ l, x ∈ m) → m.length ≤ l.length → m.Perm l
  | [], m, _, _, h => by
    have : m = [] := List.length_eq_zero_iff.mp (Nat.le_zero.mp h)
    rw [this]
  | x :: r, m, hn, hs, hl => by
    obtain ⟨h1, h2⟩ := List.nodup_cons.mp hn
    have hx : x ∈ m := hs x List.mem_cons_self
    refine (List.perm_cons_erase hx).trans ((perm_of_sub r (m.erase x) h2 (fun y hy => ?_) ?_).cons x)
    · exact (List.mem_erase_of_ne fun e : y = x => h1 (e ▸ hy)).mpr (hs y (List.mem_cons_of_mem _ hy))
    · rw [List.length_erase_of_mem hx]
      simp only [List.length_cons] at hl
      omega
section
variable {p : Program} {w : World} {A : Around} {E : Value → Shared → Prop} {s : Shared}
set_option maxHeartbeats 3200000 in
theorem sorted_texts {a : Addr} {l : List Str} {Q : Value → Shared → Prop} (R : TxR p w s.heap a l) (nd : l.Nodup) (hh : A.handled = none) (h64 : l.length < 64)
    (hq : ∀ t q (out : Array Value) (c : Nat) (ss : List Str), (∀ b o, s.heap.get? b = some o → t.heap.get? b = some o) → t.gens = s.gens → t.os = s.os → s.heap.objs.size ≤ q →
      t.heap.get? q = some (PyProof.Rows.seqObj "list" out c) → PyProof.Rows.StrsAre out.toList ss → ss.Perm l → PyProof.Rows.sortedS ss = true → Q (.ref q) t) :
    wpAny (model p w) A (PySem.call (.builtin "sorted") [.ref a]) Q E s := by
  obtain ⟨D, ho, F, r, d⟩ := R
  obtain ⟨es, ep, t⟩ := D
  have hz0 : es.size = l.length := F.sz
  have hf : t.fits es.size = true := F.fit
  have hel : ElemsOf (strKind p w) es.toList := F.el
  have hb : es.size < scanBound := by unfold scanBound; omega
  have hr : Ris t.place.toList := r
  have hd : w.params.followText "set-order" = true ∨ t.led = true := d
  have at' : L2.SetAt s.heap a es ep t := ⟨_, ho, rfl, rfl⟩
  have val : ∀ e ∈ es.toList, ∃ k u, e.2 = Value.str k u := fun e he => by
    obtain ⟨⟨k, hk, _⟩, _⟩ := hel e he
    obtain ⟨u, hu⟩ := Value.isStrOf_shape hk
    exact ⟨k, u, hu⟩
  refine Calls.call_function_entry PyProof.Rows.kind_sorted PyProof.Rows.plain_sorted PyProof.Rows.entry_sorted (PyProof.Rows.args_sorted1 _) ?_
  unfold Builtin.«sorted»
  refine wpAny_bind (m := checkCount "sorted" 1 1 _) (wpAny_pure (wpAny_bind ?_))
  refine L2.collect_set (A := A.in1) hh at' hf hb hr hd fun s1 vs k1 hz g1 o1 pm => ?_
  have vl : vs.length = l.length := by rw [pm.length_eq, List.length_map, Array.length_toList]; exact hz0
  have sv : ∀ v ∈ vs, ∃ x t, v = Value.str x t := fun v hv => by
    obtain ⟨e, he, q⟩ := List.mem_map.mp (pm.mem_iff.mp hv)
    obtain ⟨k, u, h1⟩ := val e he
    exact ⟨k, u, by rw [← q]; exact h1⟩
  have hI : PyProof.Rows.StrsAre vs (vs.map PyProof.Rows.strOf) := PyProof.Rows.strsAre_map vs sv
  have memI : ∀ x : Str, x ∈ vs.map PyProof.Rows.strOf ↔ x ∈ l := fun x => by
    rw [F.mem x, List.mem_map]
    constructor
    · rintro ⟨v, hv, e⟩
      obtain ⟨y, hy, q⟩ := List.mem_map.mp (pm.mem_iff.mp hv)
      refine ⟨y, hy, ?_⟩
      obtain ⟨k, u, h1⟩ := val y hy
      rw [h1, ← e, ← q, h1]
      exact is_str _ _
    · rintro ⟨y, hy, q⟩
      obtain ⟨u, hu⟩ := Value.isStrOf_shape q
      exact ⟨y.2, pm.mem_iff.mpr (List.mem_map.mpr ⟨y, hy, rfl⟩), by rw [hu]; rfl⟩
  have pl : (vs.map PyProof.Rows.strOf).Perm l := by
    exact perm_of_sub _ _ nd (fun x hx => (memI x).mpr hx) (by rw [List.length_map, vl]; exact Nat.le_refl _)
  refine wpAny_bind (wpAny_newList ?_ (by rw [vl, sizeLine_eq]; omega))
  have hoL : (s1.heap.push (PyProof.Rows.seqObj "list" vs.toArray 0)).get? s1.heap.objs.size = some (PyProof.Rows.seqObj "list" vs.toArray 0) := Heap.get?_push_size _ rfl
  refine wpAny_bind (wpAny_holding (wpAny_call_entry PyProof.Rows.slot_list_sort ⟨_, hoL, rfl⟩ PyProof.Rows.entry_list_sort
    (PyProof.Rows.list_sort_treeK PyProof.Rows.strKind_oneLt hoL hI.keysOf (fun v₁ v₂ rest e => PyProof.Rows.keyKind_strs (by rw [← e]; exact hI)) (by rw [vl]; exact h64) fun st hp hs => ⟨_, rfl, ?_⟩) (PyProof.Rows.args_list_sort _)))
  obtain ⟨ss, z1, z2, z3⟩ := PyProof.Rows.sorted_out_str hI hp hs
  obtain ⟨c, hc⟩ := PyProof.Rows.sortedHeap_at (vs := vs) (out := (PyProof.Rows.arrOf st).map (·.2)) hoL
  refine wpAny_pure ⟨_, rfl, hq _ s1.heap.objs.size _ c ss (fun b u e => ?_) g1 o1 hz hc z1 (z2.trans pl) z3⟩
  have q := k1 b u e
  have lt := Heap.lt_size q
  rw [show ({ s1 with heap := PyProof.Rows.sortedHeap (s1.heap.push (PyProof.Rows.seqObj "list" vs.toArray 0)) s1.heap.objs.size vs ((PyProof.Rows.arrOf st).map (·.2)) } : Shared).heap.get? b = _ from
    PyProof.Rows.sortedHeap_old (Nat.ne_of_lt lt) (by rw [PyProof.Rows.size_push']; exact Nat.lt_succ_of_lt lt)]
  exact Heap.get?_push_of_some _ q
end
section
variable {X : L2.Cx}
def tSortSet (K : PySem.W.Frag) (ta : L2.TE) : L2.TE := fun σ H Q => ta σ H fun x H1 => ∃ (l : Addr) (xs : List Str), x = L2.V.ref l ∧ L2.SqL K H1 l (xs.map L2.V.str) ∧ xs.length < 64 ∧
  ∀ (ys : List Str) (q : Addr), ys.Perm (gath [] xs) → PyProof.Rows.sortedS ys = true → H1 q = none → Q (.ref q) (L2.upd H1 q (.lst (ys.map L2.V.str)))
theorem pe_sortSet {a : Expr} {ta : L2.TE} {p p2 q pos : Pos} (hc : X.calm = true) (hg : L2.Gl X "sorted") (hm : X.mg "sorted" = none) (hg2 : L2.Gl X "set") (hm2 : X.mg "set" = none) (ha : L2.PE X a ta)
    (na : starEach [a] X.env = [(false, eval a X.env)]) : L2.PE X (.Call (.Name "sorted" p) [.Call (.Name "set" p2) [a] [] q] [] pos) (tSortSet X.K ta) := by
  refine ⟨fun pins s σ H Q I h => ?_⟩
  refine PyProof.Rows.Call_ (L2.ld_blt I hg hm (by decide +kernel : bootBuiltins "sorted" = some (.builtin "sorted")) ?_)
  refine PyProof.Rows.callWith_builtin1 (PyProof.Rows.args_cons ?_ rfl) rfl rfl
  refine PyProof.Rows.Call_ (L2.ld_blt I hg2 hm2 PyProof.Rows.boot_set ?_)
  have na' : starEach [a] X.env = (false, eval a X.env) :: starEach [] X.env := na
  refine PyProof.Rows.callWith_type1 (PyProof.Rows.args_cons (L2.thn (ha.run pins s σ H _ I h) fun v s1 ⟨x, H1, I1, r1, q1⟩ => PyProof.Rows.args_nil ?_) na') na' rfl
  obtain ⟨l, xs, rfl, hq, h64, q1⟩ := q1
  cases r1
  obtain ⟨its, r, pl, hz⟩ := I1.list hq
  refine call_set_texts xs (I1.ok.hd hc) pl.isList (by simpa using L2.strsAre_of r) (by unfold scanBound; omega) fun h' tk hS hk => ?_
  have I2 : L2.Inv X pins σ H1 { s1 with heap := h', toks := tk } := I1.kept hk
  refine PyProof.Rows.args_nil ?_
  have gl : (gath [] xs).length < 64 := by have := gath_len xs []; simp only [List.length_nil] at this; omega
  refine sorted_texts hS (gath_nodup xs [] List.nodup_nil) (I2.ok.hd hc) gl fun t b out c ss k g o hb hg' hi hp hs => ?_
  have hn : H1 b = none := I2.hok.fresh hb
  have hlen : (ss.map L2.V.str).length ≤ sizeLine := by rw [List.length_map, hp.length_eq, sizeLine_eq]; omega
  have J : L2.Inv X pins σ (L2.upd H1 b (.lst (ss.map L2.V.str))) { heap := t.heap, gens := t.gens, drawn := t.drawn, toks := t.toks, os := s1.os } :=
    L2.Inv.call (s := { s1 with heap := h', toks := tk })  I2 (ch := []) (L2.Un.laid k hb hn) (I2.hok.laid k hb ⟨hlen, out.toList, c, L2.vals_of_strs hi, hg'⟩) (by rw [g]; exact I2.bare) (fun _ z => nomatch z)
  have e : t = { heap := t.heap, gens := t.gens, drawn := t.drawn, toks := t.toks, os := s1.os } := by
    cases t
    cases o
    rfl
  rw [e]
  exact ⟨.ref b, _, J, rfl, q1 ss b hp hs hn⟩
end
end Py

namespace Py
open PySem (Addr Value Obj Expr Pos)
theorem insU_mem (x z : String) : ∀ l : List String, z ∈ insU x l ↔ z = x ∨ z ∈ l
  | [] => by simp [insU]
  | y :: r => by
    unfold insU
    split
    · rename_i e; subst e; simp
    · split
      · rw [List.mem_cons, insU_mem x z r, List.mem_cons]
        constructor
        · rintro (h | h | h)
          · exact .inr (.inl h)
          · exact .inl h
          · exact .inr (.inr h)
        · rintro (h | h | h)
          · exact .inr (.inl h)
          · exact .inl h
          · exact .inr (.inr h)
      · simp
theorem sortU_mem (z : String) : ∀ l : List String, z ∈ sortU l ↔ z ∈ l
  | [] => by simp [sortU]
  | x :: r => by rw [sortU, insU_mem, sortU_mem z r, List.mem_cons]
theorem insU_lt (x : String) : ∀ {l : List String}, l.Pairwise (· < ·) → (insU x l).Pairwise (· < ·)
  | [], _ => by simp [insU]
  | y :: r, h => by
    have h' := List.pairwise_cons.mp h
    unfold insU
    split
    · exact h
    · rename_i ne
      split
      · rename_i hlt
        refine List.pairwise_cons.mpr ⟨fun z hz => ?_, insU_lt x h'.2⟩
        rcases (insU_mem x z r).mp hz with rfl | hz
        · exact hlt
        · exact h'.1 z hz
      · rename_i hge
        have hxy : x < y := by
          rcases Classical.em (x < y) with c | c
          · exact c
          · exact absurd (leS_antisymm (show leS x y from hge) c) ne
        refine List.pairwise_cons.mpr ⟨fun z hz => ?_, h⟩
        rcases List.mem_cons.mp hz with rfl | hz
        · exact hxy
        · exact String.lt_trans hxy (h'.1 z hz)
theorem sortU_lt : ∀ l : List String, (sortU l).Pairwise (· < ·)
  | [] => .nil
  | x :: r => insU_lt x (sortU_lt r)
theorem sortU_of {ys : List PySem.Str} {l : List String} (p : ys.Perm (gath [] (l.map S))) (hs : PyProof.Rows.sortedS ys = true) : ys = (sortU l).map S := by
  have mem : ∀ y ∈ ys, y ∈ l.map S := fun y hy => by
    rcases (gath_mem y (l.map S) []).mp (p.mem_iff.mp hy) with z | z
    · cases z
    · exact z
  have e1 : ys = (ys.map unS).map S := by
    rw [List.map_map]
    refine (List.map_id ys).symm.trans (List.map_congr_left fun y hy => ?_)
    obtain ⟨s, _, rfl⟩ := List.mem_map.mp (mem y hy)
    show S s = S (unS (S s))
    rw [unS_S]
  have nd : ys.Nodup := p.nodup_iff.mpr (gath_nodup _ [] List.nodup_nil)
  have hs' : (ys.map unS).Pairwise leS := sorted_all (by rw [← e1]; exact hs)
  have nd' : (ys.map unS).Nodup := by
    rw [e1] at nd
    exact List.Pairwise.imp (fun {a b} h e => h (by rw [e])) (List.pairwise_map.mp nd)
  have memU : ∀ z, z ∈ ys.map unS ↔ z ∈ sortU l := fun z => by
    rw [sortU_mem]
    constructor
    · intro h
      obtain ⟨y, hy, rfl⟩ := List.mem_map.mp h
      obtain ⟨s, h1, rfl⟩ := List.mem_map.mp (mem y hy)
      rw [unS_S]; exact h1
    · intro h
      refine List.mem_map.mpr ⟨S z, p.mem_iff.mpr ((gath_mem _ _ []).mpr (.inr (List.mem_map.mpr ⟨z, h, rfl⟩))), unS_S z⟩
  have ndU : (sortU l).Nodup := List.Pairwise.imp (fun {a b} h e => by rw [e] at h; exact absurd h (String.lt_irrefl _)) (sortU_lt l)
  have pm : (ys.map unS).Perm (sortU l) := (List.perm_ext_iff_of_nodup nd' ndU).mpr memU
  have sU : (sortU l).Pairwise leS := List.Pairwise.imp (fun {a b} h c => absurd (String.lt_trans h c) (String.lt_irrefl _)) (sortU_lt l)
  rw [e1]
  exact congrArg (List.map S) (List.Perm.eq_of_pairwise (fun x y _ _ h1 h2 => leS_antisymm h1 h2) hs' sU pm)
section
variable {X : L2.Cx} {G : Gt} {T : Tb} {k : Cxt} {pos p0 p1 p2 : Pos} {e1 : Expr} {x1 : Ex}
theorem se_sortSet (hcalm : X.calm = k.calm) (hg : L2.Gl X "sorted") (hm : X.mg "sorted" = none) (hg2 : L2.Gl X "set") (hm2 : X.mg "set" = none) (h1 : SE X G k.xc e1 (ev T k x1)) (hs : PySem.starEach [e1] X.env = [(false, PySem.eval e1 X.env)]) :
    SE X G k.xc (.Call (.Name "sorted" p0) [.Call (.Name "set" p1) [e1] [] p2] [] pos) (ev T k (.bi .sortedSet (.cons x1 .nil))) := fun W' tk => by
  cases hk : k.calm with
  | false => exact pe_no fun σ H Q q => by obtain ⟨al, ρ, h, a, p⟩ := rd_at q; simp [ev, hk, PostE] at p
  | true =>
    refine pe_imp (pe_sortSet (hcalm.trans hk) hg hm hg2 hm2 (h1 W' tk) hs) fun σ H Q q => ?_
    obtain ⟨al, ρ, h, a, p⟩ := rd_at q
    simp only [ev, hk, if_true] at p
    simp only [evs, Res.bind_assoc, Res.bind_ok] at p
    refine rd_bind a p fun al1 H1 w1 h2 v1 y1 a1 r1 p1 => ?_
    have p2 := CallS.post p1 (wBi_noexc _ _ _)
    cases w1 with
    | lst xs =>
      simp only [wBi] at p2
      split at p2
      case isFalse => exact p2.elim
      rename_i h64
      cases e : strsOf xs with
      | none => simp only [e, Option.map_none, lift_none] at p2; exact p2.elim
      | some l =>
        simp only [e, Option.map_some, lift_some] at p2
        obtain ⟨pa, vs, rfl, sa, la⟩ := deref_lst a1.hs r1 (show deref h2 (W.lst xs) = .lst xs from rfl)
        have := la.strs e
        subst this
        rw [show (l.map fun s => L2.V.str (S s)) = (l.map S).map L2.V.str by rw [List.map_map]; rfl] at sa
        refine ⟨pa, l.map S, rfl, .inl (.inl sa), by rw [List.length_map, strsOf_len _ _ e]; exact h64, fun ys pp hp hs' hn => ?_⟩
        rw [sortU_of hp hs']
        have hx := ext_new (o := .lst (((sortU l).map S).map L2.V.str)) a1.hs hn
        refine p2 al1 _ _ hx (a1.hs.new hn) (.lst ⟨L2.upd_same, a1.hs.out hn⟩ ?_)
        have h2 := repL_strs (K := X.K) (H := H1) (al := al1) (sortU l)
        rw [show ((sortU l).map fun s => L2.V.str (S s)) = ((sortU l).map S).map L2.V.str by rw [List.map_map]; rfl] at h2
        exact h2.mono hx
    | _ => exact (show False from p2).elim
end
end Py

namespace Py
open PySem (Addr Value Obj Expr Pos Stmt Scope Str NameKind)
/-- what a global name is -/
inductive Gk where
  | df (f m : Nat) | cl (c f m : Nat) | xc (c : Nat) (bare : Bool) | con (w : W) | dic (kvs : List (String × W)) | free | unk
structure TrE where
  sc : Scope
  fnc : Str → Bool
  N : List Str
  gk : Str → Gk
  fno : Str → Option Nat
  mth : Str → Nat → Option Nat
  mls : Pos → Bool
  xn : Str → Bool
structure Sf (E : TrE) (X : L2.Cx) (G : Gt) (T : Tb) (k : Cxt) (n : Nat) : Prop where
  sc : X.env.scope = E.sc
  N : X.N = E.N
  nd : X.N.Nodup
  kind : E.sc.kind = .function
  calm : X.calm = k.calm
  pos : 1 ≤ n
  room : k.calm = true → L2.Room (n + 1) X.A
  units : X.A.units + 200 < PySem.cLine
  cls : ClsF X.K G T
  gdef : ∀ x f m, E.gk x = .df f m → ∃ a fd ps, CallF X G (n + 1) (k.C f) m a fd ps ∧ X.mg x = some (.ref a) ∧ PySem.W.keepIn X.K (.ref a) = true
  gcls : ∀ x c f m, E.gk x = .cl c f m → ∃ C a fd ps, MakeF X G k n c f m C a fd ps ∧ T.init c = some f ∧ X.mg x = some (.ref C)
  gcon : ∀ x w, E.gk x = .con w → ∃ v u, X.mg x = some u ∧ L2.RelV v u ∧ ∀ H al, Rep X.K H al v w
  gdic : ∀ x kvs, E.gk x = .dic kvs → ∃ a, X.mg x = some (.ref a) ∧ DicF X.K X.w a kvs
  gexg : ∀ x c, E.gk x = .xc c false → T.exf c = none ∨ ∃ C m l, ExcG X G T c C x m l ∧ m ≤ 1000
  gxf : ∀ s f c C, E.fno s = some f → G.xcl c = some C → xfOk T c f = true → L2.XfC X.K C ∧ PySem.W.findIn X.K (.ref C) s = some none
  gfree : ∀ x, E.gk x = .free → X.mg x = none
  gexc : ∀ x c b, E.gk x = .xc c b → ∃ C, X.mg x = some (.ref C) ∧ (b = true → ExcF X G T c C x) ∧ ∀ c' C', G.xcl c' = some C' → PySem.W.exmOne X.K (.ref C') (.ref C) = some (T.sub c' c)
  gis : ∀ x c b C, E.gk x = .xc c b → X.mg x = some (.ref C) → ∀ c' C', G.xcl c' = some C' → L2.ExcC X.K C' ∧ PySem.W.kitOne X.K (.ref C') (.ref C) = some (T.sub c' c)
  fn : ∀ x, E.fnc x = true → X.fn x = true
  fnm : ∀ s f, E.fno s = some f → s = G.fnm f
  mth : ∀ s mi m, E.mth s m = some mi → MethF X G T k (n + 1) mi m s
def ixOf (x : Str) : List Str → Option Nat
  | [] => none
  | y :: r => if y = x then some 0 else (ixOf x r).map (· + 1)
theorem ixOf_get {x : Str} : ∀ {N : List Str} {i : Nat}, ixOf x N = some i → N[i]? = some x
  | [], _, h => by simp [ixOf] at h
  | y :: r, i, h => by
    unfold ixOf at h
    split at h
    · rename_i e
      cases h; simp [e]
    · obtain ⟨j, h1, rfl⟩ := Option.map_eq_some_iff.mp h
      simpa using ixOf_get h1
def plainE : Expr → Bool
  | .Starred .. => false
  | _ => true
theorem star_cons {e : Expr} {es : List Expr} {env : PySem.Env} (h : plainE e = true) : PySem.starEach (e :: es) env = (false, PySem.eval e env) :: PySem.starEach es env := by
  cases e <;> first | rfl | cases h
theorem star_map {env : PySem.Env} : ∀ {es : List Expr}, es.all plainE = true → PySem.starEach es env = es.map fun e => (false, PySem.eval e env)
  | [], _ => rfl
  | e :: es, h => by
    simp only [List.all_cons, Bool.and_eq_true] at h
    rw [star_cons h.1, star_map h.2]; rfl
def badName (x : Str) : Bool := x == ("__debug__" : Str) || x == ("__classdict__" : Str) || x == ("__name__" : Str)
theorem badName_no {x : Str} (h : badName x = false) : (x == ("__debug__" : Str)) = false ∧ (x == ("__classdict__" : Str)) = false ∧ x ≠ "__name__" := by
  unfold badName at h
  simp only [Bool.or_eq_false_iff] at h
  exact ⟨h.1.1, h.1.2, fun e => by rw [e] at h; simp at h⟩
/-- a name: one of the def's slots -/
def slotOf (E : TrE) (x : Str) : Option Nat := match E.sc.names.lookup x with
  | some .local | some .cell | some .free => ixOf x E.N
  | _ => none
def isGl (E : TrE) (x : Str) : Bool := match E.sc.names.lookup x with
  | some .globalImplicit => !badName x
  | _ => false
def trName (E : TrE) (x : Str) : Ex :=
  if badName x then .no else match slotOf E x with
  | some i => .var i
  | none => if isGl E x then match E.gk x with
    | .con w => .cst w
    | _ => .no
    else .no
def toStr (s : Str) : String := String.ofList (s.cps.toList.map Char.ofNat)
def trConst : PySem.Const → Ex
  | .int i => .cst (.int i)
  | .bool b => .cst (.bl b)
  | .none => .cst .non
  | .str s => if S (toStr s) = s then .cst (.str (toStr s)) else .no
  | _ => .no
def trL (f : Expr → Ex) : List Expr → Ex
  | [] => .nil
  | e :: es => if plainE e then .cons (f e) (trL f es) else .no
def bopOf : PySem.Operator → Option Bop
  | .Add => some .add
  | .Sub => some .sub
  | .Mult => some .mul
  | .Mod => some .mod
  | .FloorDiv => some .fdiv
  | .Pow => some .pow
  | _ => none
def copOf : PySem.CmpOp → Option Cop
  | .Eq => some .eq
  | .NotEq => some .ne
  | .Lt => some .lt
  | .LtE => some .le
  | .Gt => some .gt
  | .GtE => some .ge
  | .In => some .isin
  | .NotIn => some .notin
  | _ => none
def trBool (f : Expr → Ex) (op : PySem.BoolOp) : List Expr → Ex
  | [] => .no
  | [e] => f e
  | e :: es => match op with
    | .And => .and (f e) (trBool f op es)
    | .Or => .or (f e) (trBool f op es)
section
variable {E : TrE} {X : L2.Cx} {G : Gt} {T : Tb} {k : Cxt} {n : Nat} {pos : Pos} {e e1 e2 e3 : Expr} {x1 x2 x3 : Ex}
theorem se_no : SE X G k.xc e (ev T k .no) := fun W' tk => pe_no fun σ H Q q => by
  obtain ⟨al, ρ, h, a, p⟩ := rd_at q
  simp [ev, PostE] at p
theorem st_no : ST X G k.xc e (evT T k .no) := fun W' tk => ⟨fun _ _ _ _ _ _ q => by
  obtain ⟨al, ρ, h, a, p⟩ := rd_atT q
  simp [evT, ev, PostE] at p⟩
theorem sa_no {es : List Expr} : SA X G k.xc es (evs T k .no) := fun W' tk => ⟨fun _ _ _ _ _ _ _ q => by
  obtain ⟨al, ρ, h, a, p⟩ := rd_atA q
  simp [evs, PostE] at p⟩
theorem Sf.vis (F : Sf E X G T k n) {x : Str} {i : Nat} (h : slotOf E x = some i) : X.N[i]? = some x ∧ L2.Vis X.env.scope x := by
  unfold slotOf at h
  rw [F.sc, F.N]
  split at h
  · rename_i e; exact ⟨ixOf_get h, .inl e⟩
  · rename_i e; exact ⟨ixOf_get h, .inr (.inl e)⟩
  · rename_i e; exact ⟨ixOf_get h, .inr (.inr e)⟩
  · cases h
theorem Sf.gl (F : Sf E X G T k n) {x : Str} (h : isGl E x = true) : L2.Gl X x ∧ badName x = false := by
  unfold isGl at h
  split at h
  · rename_i e
    refine ⟨?_, by simpa using h⟩
    show X.env.scope.names.lookup x = _
    rw [F.sc]; exact e
  · cases h
theorem se_name (F : Sf E X G T k n) {x : Str} : SE X G k.xc (.Name x pos) (ev T k (trName E x)) := by
  unfold trName
  split
  · exact se_no
  · rename_i hb
    obtain ⟨b1, b2, b3⟩ := badName_no (by simpa using hb)
    split
    · rename_i i hi
      obtain ⟨h1, h2⟩ := F.vis hi
      exact se_var h1 h2 b1 b2
    · split
      · rename_i hg
        obtain ⟨g, _⟩ := F.gl hg
        split
        · rename_i w hw
          obtain ⟨v, u, hm, r, rw_⟩ := F.gcon x w hw
          exact se_glob g hm r b1 rw_
        · exact se_no
      · exact se_no
theorem se_const {c : PySem.Const} {j : Nat} : SE X G k.xc (.Constant c j pos) (ev T k (trConst c)) := by
  cases c <;> unfold trConst
  all_goals try exact se_no
  · exact se_none
  · exact se_bool
  · exact se_int
  · simp only
    split
    · rename_i hs
      rw [← hs, show toStr (S (toStr _)) = toStr _ by rw [hs]]
      exact se_str
    · exact se_no
theorem sa_trL {f : Expr → Ex} (h : ∀ e, SE X G k.xc e (ev T k (f e))) : ∀ es : List Expr, SA X G k.xc es (evs T k (trL f es))
  | [] => sa_nil
  | e :: es => by
    unfold trL
    split
    · rename_i hp
      exact sa_cons (h e) (sa_trL h es) (star_cons hp)
    · exact sa_no
theorem trL_len {f : Expr → Ex} : ∀ (es : List Expr) {ρ : Env} {h h' : MH} {ws : List W}, evs T k (trL f es) ρ h = .ok ws h' → ws.length = es.length
  | [], ρ, h, h', ws, e => by simp only [trL, evs] at e; cases e; rfl
  | e :: es, ρ, h, h', ws, q => by
    unfold trL at q
    split at q
    · simp only [evs] at q
      cases e1 : ev T k (f e) ρ h with
      | ok w h1 =>
        rw [e1, Res.bind_ok] at q
        cases e2 : evs T k (trL f es) ρ h1 with
        | ok ws2 h2 =>
          rw [e2, Res.bind_ok] at q
          cases q
          rw [List.length_cons, List.length_cons, trL_len es e2]
        | exc => rw [e2] at q; cases q
        | bad => rw [e2] at q; cases q
      | exc => rw [e1] at q; cases q
      | bad => rw [e1] at q; cases q
    · simp only [evs] at q; cases q
theorem ops_bin (hu : X.A.units + 200 < PySem.cLine) {o : PySem.Operator} {b : Bop} (h : bopOf o = some b) : OpS X G (PySem.binaryOp o) (wBin b) := by
  cases o <;> simp only [bopOf] at h <;> cases h
  · exact ops_add
  · exact ops_sub
  · exact ops_mul
  · exact ops_mod
  · exact ops_pow
  · exact ops_fdiv
theorem ops_cmp (hu : X.A.units + 200 < PySem.cLine) {o : PySem.CmpOp} {b : Cop} (h : copOf o = some b) : OpS X G (PySem.compareOp o) fun h a c => (wCmp b h a c).map .bl := by
  cases o <;> simp only [copOf] at h <;> cases h
  · exact ops_eq hu
  · exact ops_ne hu
  · exact ops_lt
  · exact ops_le
  · exact ops_gt
  · exact ops_ge
  · exact ops_in hu
  · exact ops_notin hu
theorem se_trBool {f : Expr → Ex} (h : ∀ e, SE X G k.xc e (ev T k (f e))) (op : PySem.BoolOp) : ∀ es : List Expr, SE X G k.xc (.BoolOp op es pos) (ev T k (trBool f op es))
  | [] => se_no
  | [e] => se_one (h e)
  | e :: e2 :: es => by
    cases op with
    | And => exact se_and (h e) (se_trBool h .And (e2 :: es))
    | Or => exact se_or (h e) (se_trBool h .Or (e2 :: es))
theorem sw_trBool {f : Expr → Ex} (h : ∀ e, ST X G k.xc e (evT T k (f e))) (op : PySem.BoolOp) : ∀ es : List Expr, es ≠ [] → SW X G k.xc (.BoolOp op es pos) (evT T k (trBool f op es))
  | [], z => absurd rfl z
  | [e], _ => by
    cases op with
    | And => exact sw_and1 (h e)
    | Or => exact sw_or1 (h e)
  | e :: e2 :: es, _ => by
    cases op with
    | And => exact sw_and (h e) (sw_trBool h .And (e2 :: es) (by simp))
    | Or => exact sw_or (h e) (sw_trBool h .Or (e2 :: es) (by simp))
theorem st_trBool {f : Expr → Ex} (h : ∀ e, ST X G k.xc e (evT T k (f e))) (op : PySem.BoolOp) (es : List Expr) : ST X G k.xc (.BoolOp op es pos) (evT T k (trBool f op es)) := by
  cases es with
  | nil => exact st_no
  | cons e es => exact (sw_trBool h op (e :: es) (by simp)).st
end
end Py

namespace Py
open PySem (Addr Value Obj Expr Pos Stmt Scope Str NameKind)
section
variable {E : TrE} {X : L2.Cx} {G : Gt} {T : Tb} {k : Cxt} {n : Nat} {pos p0 p1 apos : Pos} {e e1 e2 e3 : Expr} {x1 x2 x3 : Ex}
open PySem PySem.Spec PyProof.Rows in
theorem pt_if {c a b : Expr} {tc ta tb : L2.TT} (hc : L2.PT X c tc) (ha : L2.PT X a ta) (hb : L2.PT X b tb) : L2.PT X (.IfExp c a b pos) fun σ H Q => tc σ H fun d H1 => if d = true then ta σ H1 Q else tb σ H1 Q := by
  refine ⟨fun pins s σ H Q I h => ?_⟩
  show wpAny _ _ (do if ← isTrue c X.env (eval c X.env) then isTrue a X.env (eval a X.env) else isTrue b X.env (eval b X.env)) _ _ _
  refine wpAny_bind (L2.thn (hc.run pins s σ H _ I h) fun d s1 ⟨H1, I1, q1⟩ => ?_)
  cases d with
  | true => exact ha.run pins s1 σ H1 Q I1 q1
  | false => exact hb.run pins s1 σ H1 Q I1 q1
theorem st_if (h1 : ST X G k.xc e1 (evT T k x1)) (h2 : ST X G k.xc e2 (evT T k x2)) (h3 : ST X G k.xc e3 (evT T k x3)) : ST X G k.xc (.IfExp e1 e2 e3 pos) (evT T k (.ite x1 x2 x3)) := fun W' tk => by
  refine pt_imp (pt_if (h1 W' tk) (h2 W' tk) (h3 W' tk)) fun σ H Q q => ?_
  obtain ⟨al, ρ, h, a, p⟩ := rd_atT q
  have e : evT T k (.ite x1 x2 x3) ρ h = (evT T k x1 ρ h).bind fun b h1 => if b then evT T k x2 ρ h1 else evT T k x3 ρ h1 := by
    simp only [evT, ev, Res.bind_assoc]
    congr 1; funext x h1
    congr 1; funext b h2
    cases b <;> rfl
  rw [e] at p
  refine rd_bindT a p fun al1 H1 b h1 x a1 p1 => ?_
  cases b with
  | true => exact rd_ofT a1 (by simpa using p1)
  | false => exact rd_ofT a1 (by simpa using p1)
theorem chn_bind {ρ : Env} {h : MH} {o p : Cop} : ev T k (.chn o p x1 x2 x3) ρ h = (ev T k x1 ρ h).bind fun x h1 => (ev T k x2 ρ h1).bind fun y h2 => (lift (wCmp o h2 x y) h2).bind fun b h3 =>
    if b then (ev T k x3 ρ h3).bind fun z h4 => lift ((wCmp p h4 y z).map .bl) h4 else .ok (.bl false) h3 := by simp only [ev]
theorem se_chn {o p : PySem.CmpOp} {b c : Cop} (ho : OpS X G (PySem.compareOp o) fun h a z => (wCmp b h a z).map .bl) (hp : OpS X G (PySem.compareOp p) fun h a z => (wCmp c h a z).map .bl) (hm : PySem.lastMarks [o, p] [e2, e3] = false)
    (h1 : SE X G k.xc e1 (ev T k x1)) (h2 : SE X G k.xc e2 (ev T k x2)) (h3 : SE X G k.xc e3 (ev T k x3)) : SE X G k.xc (.Compare e1 [o, p] [e2, e3] pos) (ev T k (.chn b c x1 x2 x3)) ∧ ST X G k.xc (.Compare e1 [o, p] [e2, e3] pos) (evT T k (.chn b c x1 x2 x3)) := by
  obtain ⟨r, hr, ho⟩ := ho
  obtain ⟨r', hr', hp⟩ := hp
  have key : ∀ {W' : WX} {σ : L2.St} {H : Hp} {al : AL} {ρ : Env} {h : MH} {R : AL → Hp → W → MH → Prop} {Q : HV → Hp → Prop} (a : At X G k.xc σ H al ρ h)
      (pp : PostE X.K G W' σ al H (ev T k (.chn b c x1 x2 x3) ρ h) R) (hQ : ∀ al' H' z h', Ext al H al' H' → HSim X.K G al' H' h' → R al' H' (.bl z) h' → Q (.bl z) H'),
      L2.tChain r r' (rdE X G k.xc W' (ev T k x1)) (rdE X G k.xc W' (ev T k x2)) (rdE X G k.xc W' (ev T k x3)) σ H Q := by
    intro W' σ H al ρ h R Q a pp hQ
    rw [chn_bind] at pp
    refine rd_bind a pp fun al1 H1 w1 h1 v1 y1 a1 r1 p1 => ?_
    refine rd_bind a1 p1 fun al2 H2 w2 h2 v2 y2 a2 r2 p2 => ?_
    cases e : wCmp b h2 w1 w2 with
    | none => rw [e] at p2; exact p2.elim
    | some d =>
      rw [e] at p2
      refine ho al2 H2 h2 w1 w2 (.bl d) v1 v2 _ a2.hs (r1.mono y2) r2 (by simp only [e]; rfl) fun al3 H3 z y3 s3 rz => ?_
      cases rz
      refine ⟨d, rfl, ?_⟩
      simp only [lift_some, Res.bind_ok] at p2
      cases d with
      | false =>
        simp only [Bool.false_eq_true, if_false] at p2 ⊢
        exact hQ al3 H3 false h2 (((y1.trans y2).trans y3)) s3 (p2 al3 H3 y3 s3)
      | true =>
        simp only [if_true] at p2 ⊢
        refine rd_bind (a2.next y3 s3) (PostE.ext y3 p2) fun al4 H4 w3 h4 v3 y4 a4 r4 p4 => ?_
        cases e2 : wCmp c h4 w2 w3 with
        | none => rw [e2] at p4; exact p4.elim
        | some d2 =>
          rw [e2] at p4
          refine hp al4 H4 h4 w2 w3 (.bl d2) v2 v3 _ a4.hs ((r2.mono y3).mono y4) r4 (by simp only [e2]; rfl) fun al5 H5 z y5 s5 rz => ?_
          cases rz
          exact hQ al5 H5 d2 h4 ((((y1.trans y2).trans y3).trans y4).trans y5) s5 (p4 al5 H5 y5 s5)
  refine ⟨fun W' tk => ?_, fun W' tk => ?_⟩
  · refine pe_imp (L2.pe_chain hr hr' (h1 W' tk) (h2 W' tk) (h3 W' tk) hm) fun σ H Q q => ?_
    obtain ⟨al, ρ, h, a, p⟩ := rd_at q
    exact key a p fun al' H' z h' x s f => f _ (.bl z)
  · refine pt_imp (L2.pt_chain hr hr' (h1 W' tk) (h2 W' tk) (h3 W' tk) hm) fun σ H Q q => ?_
    obtain ⟨al, ρ, h, a, p⟩ := rd_atT q
    simp only [evT] at p
    refine key a p.bind fun al' H' z h' x s f => ⟨z, rfl, ?_⟩
    exact f al' H' .refl s
def trCmp (f : Expr → Ex) (a : Expr) (ops : List PySem.CmpOp) (cs : List Expr) : Ex := match ops, cs with
  | [.Is], [.Constant .none _ _] => .isc (f a) .non
  | [.Is], [.Constant (.bool b) _ _] => .isc (f a) (.bl b)
  | [.IsNot], [.Constant .none _ _] => .not (.isc (f a) .non)
  | [.IsNot], [.Constant (.bool b) _ _] => .not (.isc (f a) (.bl b))
  | [o], [c] => match copOf o with
    | some b => if PySem.behindInMarks o c = false then .cmp b (f a) (f c) else .no
    | none => .no
  | [o, p], [b, c] => match copOf o, copOf p with
    | some q, some r => if PySem.lastMarks [o, p] [b, c] = false then .chn q r (f a) (f b) (f c) else .no
    | _, _ => .no
  | _, _ => .no
theorem se_trCmp (F : Sf E X G T k n) {f : Expr → Ex} (h : ∀ e, SE X G k.xc e (ev T k (f e))) (a : Expr) (ops : List PySem.CmpOp) (cs : List Expr) : SE X G k.xc (.Compare a ops cs pos) (ev T k (trCmp f a ops cs)) ∧ ST X G k.xc (.Compare a ops cs pos) (evT T k (trCmp f a ops cs)) := by
  unfold trCmp
  split
  · exact ⟨se_isN (h a), st_isN (h a)⟩
  · exact ⟨se_isB (h a), st_isB (h a)⟩
  · exact ⟨se_notN (h a), st_notN (h a)⟩
  · exact ⟨se_notB (h a), st_notB (h a)⟩
  · split
    · rename_i b hb
      split
      · rename_i hm
        exact ⟨se_cmp (ops_cmp F.units hb) hm (h a) (h _), st_cmp (ops_cmp F.units hb) hm (h a) (h _)⟩
      · exact ⟨se_no, st_no⟩
    · exact ⟨se_no, st_no⟩
  · split
    · rename_i q r hq hr
      split
      · rename_i hm
        exact se_chn (ops_cmp F.units hq) (ops_cmp F.units hr) hm (h a) (h _) (h _)
      · exact ⟨se_no, st_no⟩
    · exact ⟨se_no, st_no⟩
  · exact ⟨se_no, st_no⟩
def trO (f : Expr → Ex) : Option Expr → Ex
  | none => .no
  | some e => .prt (f e)
theorem so_trO {f : Expr → Ex} (h : ∀ e, SE X G k.xc e (ev T k (f e))) (o : Option Expr) : SO X G k.xc o (evo T k (trO f o)) := by
  cases o with
  | none => exact so_none
  | some e => exact so_some (h e)
def noSl : Expr → Bool
  | .Slice .. => false
  | _ => true
theorem plainIx {e : Expr} (h : noSl e = true) : L2.PlainIx e := by
  intro o i
  cases e <;> first | rfl | cases h
def trSub (f : Expr → Ex) (a b : Expr) : Ex := match b with
  | .Slice none none (some (.UnaryOp .USub (.Constant (.int 1) _ _) _)) _ => .rev (f a)
  | .Slice lo hi none _ => .sl (f a) (trO f lo) (trO f hi)
  | b => if noSl b then .ix (f a) (f b) else .no
theorem se_trSub (F : Sf E X G T k n) {f : Expr → Ex} (h : ∀ e, SE X G k.xc e (ev T k (f e))) (a b : Expr) : SE X G k.xc (.Subscript a b pos) (ev T k (trSub f a b)) := by
  unfold trSub
  split
  · exact se_rev (h a)
  · exact se_sl (h a) (so_trO h _) (so_trO h _)
  · split
    · rename_i hn
      exact se_ix F.units (h a) (h b) (plainIx hn)
    · exact se_no
def baseOk : Expr → Bool
  | .Call (.Name ..) [] [] _ => false
  | _ => true
theorem base_ok {o : Expr} {nm : Str} {env : PySem.Env} {whole : PySem.Sem Value} (h : baseOk o = true) : PySem.attributeBase o nm env whole = whole := by
  unfold PySem.attributeBase
  split
  · cases h
  · rfl
def trXf (E : TrE) (f : Expr → Ex) (o : Expr) (i : Nat) : Ex := match o with
  | .Name x _ => if E.xn x = true then (match slotOf E x with
    | some j => if badName x = false then .xfld j i else .no
    | none => .no) else .fld (f o) i
  | _ => if baseOk o then .fld (f o) i else .no
def trAtt (E : TrE) (f : Expr → Ex) (o : Expr) (nm : Str) : Ex := match E.fno nm with
  | some i => trXf E f o i
  | none => .no
theorem se_trXf (F : Sf E X G T k n) {f : Expr → Ex} (h : ∀ e, SE X G k.xc e (ev T k (f e))) {o : Expr} {nm : Str} {i : Nat} (hi : E.fno nm = some i) : SE X G k.xc (.Attribute o nm pos) (ev T k (trXf E f o i)) := by
  unfold trXf
  split
  · split
    · split
      · rename_i j hj
        split
        · rename_i hb
          obtain ⟨v1, v2⟩ := F.vis hj
          obtain ⟨b1, b2, _⟩ := badName_no hb
          exact pe_xfld (fun c C e1 e3 => F.gxf nm i c C hi e3 e1) (F.fnm _ _ hi) v1 v2 b1 b2 rfl
        · exact se_no
      · exact se_no
    · exact se_fld F.cls (F.fnm _ _ hi) (h _) rfl
  · split
    · rename_i hb
      exact se_fld F.cls (F.fnm _ _ hi) (h _) (base_ok hb)
    · exact se_no
theorem se_trAtt (F : Sf E X G T k n) {f : Expr → Ex} (h : ∀ e, SE X G k.xc e (ev T k (f e))) (o : Expr) (nm : Str) : SE X G k.xc (.Attribute o nm pos) (ev T k (trAtt E f o nm)) := by
  unfold trAtt
  split
  · rename_i i hi
    exact se_trXf F h hi
  · exact se_no
def trD (f : Expr → Ex) : List (Option Expr) → List Expr → Ex
  | [], [] => .nil
  | some a :: ks, v :: vs => .cons (f a) (.cons (f v) (trD f ks vs))
  | _, _ => .no
def trDict (f : Expr → Ex) (ks : List (Option Expr)) (vs : List Expr) : Ex :=
  if ks.all (·.isSome) = true ∧ ks.length = vs.length ∧ ks.length ≤ 15 then .dct (trD f ks vs) else .no
theorem sd_trD {f : Expr → Ex} (h : ∀ e, SE X G k.xc e (ev T k (f e))) : ∀ (ks : List (Option Expr)) (vs : List Expr), ks.all (·.isSome) = true → ks.length = vs.length → SD X G k.xc pos ks vs (evd T k (trD f ks vs))
  | [], [], _, _ => sd_nil
  | [], v :: vs, _, e => by simp at e
  | k :: ks, [], _, e => by simp at e
  | none :: ks, v :: vs, h1, _ => by simp at h1
  | some a :: ks, v :: vs, h1, e => by
    refine sd_cons (h a) (h v) (sd_trD h ks vs ?_ ?_)
    · simpa using h1
    · simpa using e
theorem evd_len {f : Expr → Ex} : ∀ (ks : List (Option Expr)) (vs : List Expr) {ρ : Env} {h h' : MH} {kvs : List (Key × W)}, evd T k (trD f ks vs) ρ h = .ok kvs h' → kvs.length = ks.length
  | [], [], ρ, h, h', kvs, e => by simp only [trD, evd] at e; cases e; rfl
  | [], v :: vs, ρ, h, h', kvs, e => by simp only [trD, evd] at e; cases e
  | none :: ks, v :: vs, ρ, h, h', kvs, e => by simp only [trD, evd] at e; cases e
  | none :: ks, [], ρ, h, h', kvs, e => by simp only [trD, evd] at e; cases e
  | some a :: ks, [], ρ, h, h', kvs, e => by simp only [trD, evd] at e; cases e
  | some a :: ks, v :: vs, ρ, h, h', kvs, e => by
    simp only [trD, evd] at e
    cases e1 : ev T k (f a) ρ h with
    | exc => rw [e1] at e; cases e
    | bad => rw [e1] at e; cases e
    | ok w1 h1 =>
      rw [e1, Res.bind_ok] at e
      cases e2 : ev T k (f v) ρ h1 with
      | exc => rw [e2] at e; cases e
      | bad => rw [e2] at e; cases e
      | ok w2 h2 =>
        rw [e2, Res.bind_ok] at e
        cases e3 : keyOf w1 with
        | none => rw [e3] at e; cases e
        | some q =>
          rw [e3, lift_some, Res.bind_ok] at e
          cases e4 : evd T k (trD f ks vs) ρ h2 with
          | exc => rw [e4] at e; cases e
          | bad => rw [e4] at e; cases e
          | ok r h4 =>
            rw [e4, Res.bind_ok] at e
            cases e
            rw [List.length_cons, List.length_cons, evd_len ks vs e4]
theorem se_trDict {f : Expr → Ex} (h : ∀ e, SE X G k.xc e (ev T k (f e))) (ks : List (Option Expr)) (vs : List Expr) : SE X G k.xc (.Dict ks vs pos) (ev T k (trDict f ks vs)) := by
  unfold trDict
  split
  · rename_i hh
    obtain ⟨h1, h2, h3⟩ := hh
    cases ks with
    | nil =>
      cases vs with
      | nil => exact se_dct0
      | cons => simp at h2
    | cons a ks => exact se_dct (sd_trD h _ _ h1 h2) h1 h2 (by simp) h3 fun ρ hh kvs h' e => by rw [evd_len _ _ e]; exact h3
  · exact se_no
end
end Py

namespace Py
open PySem (Addr Value Obj Expr Pos Stmt Scope Str NameKind)
/-- the built-ins by their names -/
def biOf (x : Str) : Option Bi :=
  if x = "len" then some .len else if x = "all" then some .all else if x = "int" then some .int else if x = "str" then some .str
  else if x = "list" then some .list else if x = "tuple" then some .tuple else if x = "dict" then some .dict else if x = "sorted" then some .sorted else if x = "max" then some .max else none
def tyOf (x : Str) : Option Ty :=
  if x = "int" then some .int else if x = "str" then some .str else if x = "bool" then some .bool
  else if x = "tuple" then some .tuple else if x = "list" then some .list else if x = "dict" then some .dict else none
def isFree (E : TrE) (x : Str) : Bool := isGl E x && match E.gk x with
  | .free => true
  | _ => false
def tyNm (E : TrE) (x : Str) : Option Ty := if isFree E x then tyOf x else none
def tyNms (E : TrE) : List Expr → Option (List Ty)
  | [] => some []
  | .Name x _ :: r => (tyNm E x).bind fun t => (tyNms E r).map (t :: ·)
  | _ :: _ => none
/-- isinstance(e, X), e a name: X an own class of exceptions -/
def isxOf (E : TrE) (a : Expr) (x : Str) : Ex := match a with
  | .Name n _ => if isGl E x = true ∧ badName n = false then match E.gk x, slotOf E n with
    | .xc c _, some i => .isx i c
    | _, _ => .no
    else .no
  | _ => .no
def trIsa (E : TrE) (f : Expr → Ex) : List Expr → Ex
  | [a, .Name x _] => if plainE a then match tyNm E x with
    | some t => .bi (.isa [t]) (.cons (f a) .nil)
    | none => isxOf E a x
    else .no
  | [a, .Tuple es _ _] => if plainE a then match tyNms E es with
    | some ts => if ts ≠ [] ∧ ts.length ≤ 1000 then .bi (.isa ts) (.cons (f a) .nil) else .no
    | none => .no
    else .no
  | _ => .no
def trBi (f : Expr → Ex) (x : Str) (args : List Expr) : Ex := match biOf x, args with
  | some b, e :: es => if (e :: es).all plainE then .bi b (trL f (e :: es)) else .no
  | _, _ => .no
/-- sorted(set(a)), sorted(a) -/
def trSorted (E : TrE) (f : Expr → Ex) (args : List Expr) : Ex := match args with
  | [.Call (.Name y _) [a] [] _] => if y = "set" ∧ isFree E y = true ∧ plainE a = true then .bi .sortedSet (.cons (f a) .nil) else trBi f "sorted" args
  | _ => trBi f "sorted" args
def trCallN (E : TrE) (f : Expr → Ex) (x : Str) (args : List Expr) : Ex :=
  if isGl E x then match E.gk x with
    | .df g m => if args.all plainE = true ∧ args.length = m then .call g (trL f args) else .no
    | .cl c g m => if args.all plainE = true ∧ args.length + 1 = m then .mk c (trL f args) else .no
    | .free => if x = "isinstance" then trIsa E f args else if x = "sorted" then trSorted E f args else trBi f x args
    | _ => .no
  else .no
/-- d.get(a), d a written dict or not -/
def trGet (E : TrE) (f : Expr → Ex) (o a : Expr) : Ex := match o with
  | .Name x _ => if isGl E x = true then (match E.gk x with
    | .dic kvs => .kget kvs (f a)
    | _ => .no) else .bm .get (f o) (.cons (f a) .nil)
  | _ => .bm .get (f o) (.cons (f a) .nil)
def trMeth (E : TrE) (f : Expr → Ex) (o : Expr) (nm : Str) (apos : Pos) (args : List Expr) (pos : Pos) : Ex :=
  if baseOk o = true ∧ args.all plainE = true ∧ (apos.endLine == pos.line) = true ∧ args.length < 20 then match E.mth nm (args.length + 1) with
   | some mi => .mth mi (f o) (trL f args)
   | none => match args with
    | [] => if nm = "pop" then .bm .pop (f o) .nil else .no
    | [a] => if nm = "join" then .bm .join (f o) (trL f [a]) else if nm = "append" then .bm .append (f o) (trL f [a]) else if nm = "extend" then .bm .extend (f o) (trL f [a]) else if nm = "endswith" then .bm .endswith (f o) (trL f [a])
      else if nm = "get" then trGet E f o a else .no
    | [a, b] => if nm = "get" then .bm .get2 (f o) (.cons (f a) (.cons (f b) .nil)) else if nm = "pop" then .bm .dpop (f o) (.cons (f a) (.cons (f b) .nil)) else .no
    | _ => .no
  else .no
def trCall (E : TrE) (f : Expr → Ex) (fn : Expr) (args : List Expr) (kws : List PySem.Keyword) (pos : Pos) : Ex := match kws with
  | _ :: _ => .no
  | [] => match fn with
    | .Name x _ => trCallN E f x args
    | .Attribute o nm apos => trMeth E f o nm apos args pos
    | _ => .no
def trIt (E : TrE) (f : Expr → Ex) : Expr → Ex
  | .Call (.Name x p) [a] [] q => if x = "range" then (if isFree E x = true ∧ plainE a = true then .rng1 (f a) else .no) else .its (f (.Call (.Name x p) [a] [] q))
  | .Call (.Name x p) [a, b] [] q => if x = "range" then (if isFree E x = true ∧ plainE a = true ∧ plainE b = true then .rng2 (f a) (f b) else .no) else .its (f (.Call (.Name x p) [a, b] [] q))
  | e => .its (f e)
def ownOf (N : List Str) : List (Str × NameKind) → List (Str × Nat)
  | [] => []
  | (x, k) :: r => match k with
    | .local | .cell => match ixOf x N with
      | some i => (x, i) :: ownOf N r
      | none => ownOf N r
    | _ => ownOf N r
def TrE.blk (E : TrE) (scope : Scope) : TrE := { E with sc := L2.relS scope E.sc, fnc := fun x => scope.names.lookup x == some .cell }
def notSet : Expr → Bool
  | .Set .. => false
  | _ => true
/-- a name that may be stored -/
def stoOf (E : TrE) (x : Str) : Option Nat := match E.sc.names.lookup x with
  | some .local => ixOf x E.N
  | some .cell => if E.fnc x then ixOf x E.N else none
  | _ => none
def trIfs (f : Expr → Ex) : List Expr → Option Ex
  | [] => some .yes
  | [c] => some (f c)
  | _ => none
def trComp (E : TrE) (f : TrE → Expr → Ex) (elt : Expr) (gs : List PySem.Comprehension) (scope : Scope) : Ex := match gs with
  | [⟨.Name y _, iter, ifs, 0⟩] =>
    let own := ownOf E.N scope.names
    match stoOf (E.blk scope) y, trIfs (f (E.blk scope)) ifs with
    | some i, some c => if i ∈ own.map (·.2) ∧ L2.blkC E.N E.sc scope own = true ∧ notSet iter = true then .comp i (own.map (·.2)) (trIt E (f E) iter) c (f (E.blk scope) elt) else .no
    | _, _ => .no
  | _ => .no
/-- .. over the keys of the dict that an instance has as large -/
def trCompK (E : TrE) (f : TrE → Expr → Ex) (elt : Expr) (gs : List PySem.Comprehension) (scope : Scope) : Ex := match gs with
  | [⟨.Name y _, .Attribute o nm p, ifs, 0⟩] =>
    if nm = "large" then
      match stoOf (E.blk scope) y, trIfs (f (E.blk scope)) ifs with
      | some i, some c => if i ∈ (ownOf E.N scope.names).map (·.2) ∧ L2.blkC E.N E.sc scope (ownOf E.N scope.names) = true then .cmk i ((ownOf E.N scope.names).map (·.2)) (f E (.Attribute o nm p)) c (f (E.blk scope) elt) else .no
      | _, _ => .no
    else trComp E f elt gs scope
  | _ => trComp E f elt gs scope
def trStep (f : TrE → Expr → Ex) (E : TrE) (e : Expr) : Ex := match e with
  | .Name x _ => trName E x
  | .Constant c _ _ => trConst c
  | .Tuple es _ _ => .tup (trL (f E) es)
  | .List es p => if E.mls p then .mls (trL (f E) es) else .lst (trL (f E) es)
  | .BinOp a o b _ => match bopOf o with
    | some q => .bin q (f E a) (f E b)
    | none => .no
  | .UnaryOp .Not a _ => .not (f E a)
  | .UnaryOp .USub a _ => .neg (f E a)
  | .BoolOp o es _ => trBool (f E) o es
  | .IfExp c a b _ => .ite (f E c) (f E a) (f E b)
  | .Compare a ops cs _ => trCmp (f E) a ops cs
  | .Subscript a b _ => trSub (f E) a b
  | .Attribute o nm _ => trAtt E (f E) o nm
  | .Dict ks vs _ => trDict (f E) ks vs
  | .Call fn args kws pos => trCall E (f E) fn args kws pos
  | .ListComp elt gs scope _ => trCompK E f elt gs scope
  | _ => .no
def trE : Nat → TrE → Expr → Ex
  | 0 => fun _ _ => .no
  | n + 1 => trStep (trE n)
section
variable {E : TrE} {X : L2.Cx} {G : Gt} {T : Tb} {k : Cxt} {n : Nat} {pos p0 p1 apos : Pos} {e e1 e2 e3 : Expr} {x1 x2 x3 : Ex}
theorem Sf.free (F : Sf E X G T k n) {x : Str} (h : isFree E x = true) : L2.Gl X x ∧ X.mg x = none ∧ badName x = false := by
  unfold isFree at h
  obtain ⟨h1, h2⟩ := Bool.and_eq_true_iff.mp h
  obtain ⟨g, b⟩ := F.gl h1
  refine ⟨g, F.gfree x ?_, b⟩
  split at h2
  · assumption
  · cases h2
theorem ty_nm (F : Sf E X G T k n) {x : Str} {t : Ty} (h : tyNm E x = some t) : TyNm X x t := by
  unfold tyNm at h
  split at h
  · rename_i hf
    obtain ⟨g, m, b⟩ := F.free hf
    obtain ⟨b1, b2, b3⟩ := badName_no b
    refine ⟨g, m, ?_, b3, b1⟩
    unfold tyOf at h
    repeat' split at h
    all_goals first | (cases h; done) | skip
    all_goals (rename_i e; subst e; cases h; decide +kernel)
  · cases h
theorem ty_nms (F : Sf E X G T k n) : ∀ {es : List Expr} {ts : List Ty}, tyNms E es = some ts → TyNms X es ts
  | [], ts, h => by cases h; exact .nil
  | e :: r, ts, h => by
    cases e <;> simp only [tyNms] at h <;> try (cases h; done)
    rename_i x p
    cases e1 : tyNm E x with
    | none => rw [e1] at h; cases h
    | some t =>
      rw [e1, Option.bind_some] at h
      obtain ⟨us, e2, rfl⟩ := Option.map_eq_some_iff.mp h
      exact .cons (ty_nm F e1) (ty_nms F e2)
theorem se_isxOf (F : Sf E X G T k n) (hg : L2.Gl X "isinstance") (hm : X.mg "isinstance" = none) {a : Expr} {x : Str} : SE X G k.xc (.Call (.Name "isinstance" p0) [a, .Name x p1] [] pos) (ev T k (isxOf E a x)) := by
  unfold isxOf
  split
  · split
    · rename_i hh
      obtain ⟨hx, hn⟩ := hh
      obtain ⟨gx, bx⟩ := F.gl hx
      obtain ⟨b1, b2, _⟩ := badName_no hn
      obtain ⟨x1, _, _⟩ := badName_no bx
      split
      · rename_i c b i hk hi
        obtain ⟨v1, v2⟩ := F.vis hi
        obtain ⟨C, h1, _, _⟩ := F.gexc x c b hk
        exact se_isx v1 v2 b1 b2 hg hm gx h1 x1 fun c' C' fs _ e => F.gis x c b C hk h1 c' C' e
      · exact se_no
    · exact se_no
  · exact se_no
theorem se_trIsa (F : Sf E X G T k n) {f : Expr → Ex} (h : ∀ e, SE X G k.xc e (ev T k (f e))) (hg : L2.Gl X "isinstance") (hm : X.mg "isinstance" = none) (args : List Expr) : SE X G k.xc (.Call (.Name "isinstance" p0) args [] pos) (ev T k (trIsa E f args)) := by
  unfold trIsa
  split
  · split
    · rename_i hp
      split
      · rename_i t ht
        exact se_isa F.cls F.calm hg hm (ty_nm F ht) (h _) (star_cons hp)
      · exact se_isxOf F hg hm
    · exact se_no
  · split
    · rename_i hp
      split
      · rename_i ts ht
        split
        · rename_i hh
          exact se_isaT F.cls F.calm hg hm (ty_nms F ht) hh.1 hh.2 (h _) (star_cons hp)
        · exact se_no
      · exact se_no
    · exact se_no
  · exact se_no
theorem se_bi1 (F : Sf E X G T k n) {b : Bi} {x : Str} {id : String} {f : Expr → Ex} (h : ∀ e, SE X G k.xc e (ev T k (f e))) (hf : L2.Gl X x ∧ X.mg x = none ∧ badName x = false) (hc : X.calm = true → CallS X G (.builtin id) (wBi b)) (hv : PySem.bootBuiltins x = some (.builtin id)) (es : List Expr) (hp : (e :: es).all plainE = true) :
    SE X G k.xc (.Call (.Name x p0) (e :: es) [] pos) (ev T k (.bi b (trL f (e :: es)))) := by
  obtain ⟨g, m, bn⟩ := hf
  obtain ⟨b1, b2, b3⟩ := badName_no bn
  have hm := star_map (env := X.env) hp
  exact se_biB F.calm hc g m hv (sa_trL h _) b3 b1 (trees_head hm) (trees_any (trees_tail hm))
theorem se_bi2 (F : Sf E X G T k n) {b : Bi} {x : Str} {id : String} {f : Expr → Ex} (h : ∀ e, SE X G k.xc e (ev T k (f e))) (hf : L2.Gl X x ∧ X.mg x = none ∧ badName x = false) (hc : X.calm = true → CallS X G (.type id) (wBi b)) (hv : PySem.bootBuiltins x = some (.type id)) (es : List Expr) (hp : (e :: es).all plainE = true) :
    SE X G k.xc (.Call (.Name x p0) (e :: es) [] pos) (ev T k (.bi b (trL f (e :: es)))) := by
  obtain ⟨g, m, bn⟩ := hf
  obtain ⟨b1, b2, b3⟩ := badName_no bn
  have hm := star_map (env := X.env) hp
  exact se_biT F.calm hc g m hv (sa_trL h _) b3 b1 (trees_head hm) (trees_any (trees_tail hm))
theorem se_trBi (F : Sf E X G T k n) {f : Expr → Ex} (h : ∀ e, SE X G k.xc e (ev T k (f e))) {x : Str} (hf : L2.Gl X x ∧ X.mg x = none ∧ badName x = false) (args : List Expr) : SE X G k.xc (.Call (.Name x p0) args [] pos) (ev T k (trBi f x args)) := by
  unfold trBi
  split
  · rename_i b e es hb
    split
    · rename_i hp
      unfold biOf at hb
      by_cases h1 : x = "len"
      · rw [if_pos h1] at hb; cases hb; exact se_bi1 F h hf (fun _ => cs_len) (by rw [h1]; decide +kernel) _ hp
      rw [if_neg h1] at hb
      by_cases h2 : x = "all"
      · rw [if_pos h2] at hb; cases hb; exact se_bi1 F h hf (fun c => cs_all c) (by rw [h2]; decide +kernel) _ hp
      rw [if_neg h2] at hb
      by_cases h3 : x = "int"
      · rw [if_pos h3] at hb; cases hb; exact se_bi2 F h hf (fun c => cs_int) (by rw [h3]; decide +kernel) _ hp
      rw [if_neg h3] at hb
      by_cases h4 : x = "str"
      · rw [if_pos h4] at hb; cases hb; exact se_bi2 F h hf (fun c => cs_str) (by rw [h4]; decide +kernel) _ hp
      rw [if_neg h4] at hb
      by_cases h5 : x = "list"
      · rw [if_pos h5] at hb; cases hb; exact se_bi2 F h hf (fun c => cs_list c) (by rw [h5]; decide +kernel) _ hp
      rw [if_neg h5] at hb
      by_cases h6 : x = "tuple"
      · rw [if_pos h6] at hb; cases hb; exact se_bi2 F h hf (fun c => cs_tuple) (by rw [h6]; decide +kernel) _ hp
      rw [if_neg h6] at hb
      by_cases h7 : x = "dict"
      · rw [if_pos h7] at hb; cases hb; exact se_bi2 F h hf (fun c => cs_dict c) (by rw [h7]; decide +kernel) _ hp
      rw [if_neg h7] at hb
      by_cases h8 : x = "sorted"
      · rw [if_pos h8] at hb; cases hb; exact se_bi1 F h hf (fun c => cs_sorted c F.units) (by rw [h8]; decide +kernel) _ hp
      rw [if_neg h8] at hb
      by_cases h9 : x = "max"
      · rw [if_pos h9] at hb; cases hb; exact se_bi1 F h hf (fun c => cs_max c) (by rw [h9]; decide +kernel) _ hp
      rw [if_neg h9] at hb
      cases hb
    · exact se_no
  · exact se_no
theorem Sf.room0 (F : Sf E X G T k n) : k.calm = true → L2.Room n X.A := fun h => (F.room h).mono (Nat.le_succ n)
theorem se_trSorted (F : Sf E X G T k n) {f : Expr → Ex} (h : ∀ e, SE X G k.xc e (ev T k (f e))) (hf : L2.Gl X "sorted" ∧ X.mg "sorted" = none ∧ badName "sorted" = false) (args : List Expr) :
    SE X G k.xc (.Call (.Name "sorted" p0) args [] pos) (ev T k (trSorted E f args)) := by
  unfold trSorted
  split
  · split
    · rename_i hh
      obtain ⟨rfl, h2, h3⟩ := hh
      obtain ⟨g2, m2, _⟩ := F.free h2
      exact se_sortSet F.calm hf.1 hf.2.1 g2 m2 (h _) (star_cons h3)
    · exact se_trBi F h hf _
  · exact se_trBi F h hf _
theorem se_trCallN (F : Sf E X G T k n) {f : Expr → Ex} (h : ∀ e, SE X G k.xc e (ev T k (f e))) (x : Str) (args : List Expr) : SE X G k.xc (.Call (.Name x p0) args [] pos) (ev T k (trCallN E f x args)) := by
  unfold trCallN
  split
  case isFalse => exact se_no
  rename_i hg
  obtain ⟨g, bn⟩ := F.gl hg
  obtain ⟨b1, b2, b3⟩ := badName_no bn
  split
  · rename_i gg m hk
    split
    · rename_i hh
      obtain ⟨a, fd, ps, hc, hm, hkp⟩ := F.gdef x gg m hk
      cases args with
      | nil =>
        obtain ⟨_, rfl⟩ := hh
        exact se_call0 F.room hc g hm hkp b1
      | cons e es => exact se_call F.room hc g hm hkp b1 (sa_trL h _) hh.2 (fun ρ h' ws h'' e => (trL_len _ e).trans hh.2) (star_map hh.1)
    · exact se_no
  · rename_i c gg m hk
    split
    · rename_i hh
      obtain ⟨C, a, fd, ps, hc, hi, hm⟩ := F.gcls x c gg m hk
      cases args with
      | nil =>
        obtain ⟨_, rfl⟩ := hh
        exact se_mk0 F.room hc hi g hm b1
      | cons e es =>
        obtain ⟨hp, rfl⟩ := hh
        exact se_mk F.room hc hi g hm b1 (sa_trL h _) (fun ρ h' ws h'' e => trL_len _ e) (star_map hp)
    · exact se_no
  · rename_i hk
    have hm := F.gfree x hk
    split
    · rename_i hx
      subst hx
      exact se_trIsa F h g hm args
    · split
      · rename_i hx
        subst hx
        exact se_trSorted F h ⟨g, hm, bn⟩ args
      · exact se_trBi F h ⟨g, hm, bn⟩ args
  · exact se_no
theorem mcf_of {o : Expr} {nm : Str} {es : List Expr} {cpos : Pos} (hb : baseOk o = true) (hp : es.all plainE = true) (hl : (apos.endLine == cpos.line) = true) (h20 : es.length < 20) : McF X o nm apos es cpos := by
  refine ⟨base_ok hb, ?_, hl, star_map hp⟩
  rw [star_map hp]
  simp only [Bool.and_eq_true, decide_eq_true_eq, List.all_eq_true]
  refine ⟨⟨fun x hx => ?_, fun x hx => ?_⟩, ?_⟩
  · unfold PySem.backTo at hx
    simp only [List.map_map, List.mem_map] at hx
    obtain ⟨e, _, rfl⟩ := hx
    rfl
  · simp [PySem.keywordEach, PySem.backToKw] at hx
  · simp; omega
open PySem PySem.Spec PyProof.Rows in
theorem ht_of {o : Expr} {nm : Str} {es : List Expr} (f : McF X o nm apos es pos) : PySem.eval (.Call (.Attribute o nm apos) es [] pos) X.env = (do
      let ov ← PySem.eval o X.env
      PySem.standAt apos.atName
      let (f, first) ← PySem.holding [ov] (PySem.getMethod ov nm (L2.plainOf o X.env))
      PySem.callWith pos f first (PySem.backTo pos (PySem.starEach es X.env)) (PySem.backToKw pos (PySem.keywordEach [] X.env))) := by
  rw [arm_eval_Call, f.base]
  congr 1; funext ov
  congr 1; funext _
  exact L2.mcall_line (n := es.length + ([] : List PySem.Keyword).length) (kws := PySem.backToKw pos (PySem.keywordEach [] X.env)) f.few f.line
theorem se_trGet (F : Sf E X G T k n) {f : Expr → Ex} (h : ∀ e, SE X G k.xc e (ev T k (f e))) {o a : Expr} (mc : McF X o "get" apos [a] pos) : SE X G k.xc (.Call (.Attribute o "get" apos) [a] [] pos) (ev T k (trGet E f o a)) := by
  unfold trGet
  split
  · split
    · rename_i hg
      obtain ⟨g, bn⟩ := F.gl hg
      split
      · rename_i kvs hk
        obtain ⟨a, hm, D⟩ := F.gdic _ _ hk
        exact se_kget D g hm (badName_no bn).1 (h _) mc
      · exact se_no
    · exact se_get F.units (h _) (h _) mc
  · exact se_get F.units (h _) (h _) mc
theorem se_trMeth (F : Sf E X G T k n) {f : Expr → Ex} (h : ∀ e, SE X G k.xc e (ev T k (f e))) (o : Expr) (nm : Str) (args : List Expr) : SE X G k.xc (.Call (.Attribute o nm apos) args [] pos) (ev T k (trMeth E f o nm apos args pos)) := by
  unfold trMeth
  split
  case isFalse => exact se_no
  rename_i hh
  obtain ⟨hb, hp, hl, h20⟩ := hh
  have mc : ∀ {nm : Str}, McF X o nm apos args pos := fun {nm} => mcf_of hb hp hl h20
  split
  · rename_i mi hm
    have M := F.mth _ _ _ hm
    cases args with
    | nil => exact se_mth0 F.room F.cls M (h o) (ht_of mc)
    | cons a as => exact se_mth F.room F.cls M (h o) (sa_trL h _) (fun ρ h' ws h'' e => trL_len _ e) (star_map hp) (ht_of mc)
  split
  · split
    · rename_i e; subst e
      exact se_bm0 F.calm PySem.F.plainAttrs_list PySem.F.slot_list_pop PySem.F.type_list_pop L2.mt_pop ms_pop (h o) mc
    · exact se_no
  · split
    · rename_i e; subst e
      exact se_bm F.calm PySem.F.plainAttrs_str PySem.F.slot_str_join PySem.F.type_str_join L2.mt_join ms_join (h o) (sa_trL h _) mc
    split
    · rename_i e; subst e
      exact se_bm F.calm PySem.F.plainAttrs_list PySem.F.slot_list_append PySem.F.type_list_append L2.mt_append ms_append (h o) (sa_trL h _) mc
    split
    · rename_i e; subst e
      exact se_bm F.calm PySem.F.plainAttrs_list PySem.F.slot_list_extend PySem.F.type_list_extend L2.mt_extend ms_extend (h o) (sa_trL h _) mc
    split
    · rename_i e; subst e
      exact se_bm F.calm PySem.F.plainAttrs_str PySem.F.slot_str_endswith PySem.F.type_str_endswith L2.mt_endswith ms_endswith (h o) (sa_trL h _) mc
    split
    · rename_i e; subst e
      exact se_trGet F h mc
    · exact se_no
  · split
    · rename_i e; subst e
      exact se_get2 F.units (h o) (h _) (h _) mc
    split
    · rename_i e; subst e
      exact se_dpop (h o) (h _) (h _) mc
    · exact se_no
  · exact se_no
theorem se_trCall (F : Sf E X G T k n) {f : Expr → Ex} (h : ∀ e, SE X G k.xc e (ev T k (f e))) (fn : Expr) (args : List Expr) (kws : List PySem.Keyword) : SE X G k.xc (.Call fn args kws pos) (ev T k (trCall E f fn args kws pos)) := by
  unfold trCall
  split
  · exact se_no
  · split
    · exact se_trCallN F h _ _
    · exact se_trMeth F h _ _ _
    · exact se_no
end
end Py

namespace Py
open PySem (Addr Value Obj Expr Pos Stmt Scope Str NameKind)
section
variable {E : TrE} {X : L2.Cx} {G : Gt} {T : Tb} {k : Cxt} {n : Nat} {pos p0 p1 apos : Pos} {e e1 e2 e3 tg : Expr} {x1 x2 x3 : Ex}
theorem si_no {iter : Expr} : SI X G k.xc tg iter (evi T k .no) := fun W' tk => ⟨fun _ _ _ => False, ⟨fun _ _ _ _ _ _ q => q.elim⟩, fun σ H R q => by
  obtain ⟨al, ρ, h, a, p⟩ := q
  simp [evi, PostE] at p⟩
theorem si_trIt (F : Sf E X G T k n) {f : Expr → Ex} (h : ∀ e, SE X G k.xc e (ev T k (f e))) (iter : Expr) : SI X G k.xc tg iter (evi T k (trIt E f iter)) := by
  unfold trIt
  split
  · split
    · rename_i hx
      subst hx
      split
      · rename_i hh
        obtain ⟨hf, hp⟩ := hh
        obtain ⟨g, m, _⟩ := F.free hf
        exact si_rng1 g m (h _) (star_map (es := [_]) (by simp [hp]))
      · exact si_no
    · exact si_its (h _)
  · split
    · rename_i hx
      subst hx
      split
      · rename_i hh
        obtain ⟨hf, hp, hq⟩ := hh
        obtain ⟨g, m, _⟩ := F.free hf
        exact si_rng2 g m (h _) (h _) (star_map (es := [_, _]) (by simp [hp, hq])) (star_map (es := [_]) (by simp [hq]))
      · exact si_no
    · exact si_its (h _)
  · exact si_its (h _)
theorem ownOf_get {N : List Str} : ∀ {l : List (Str × NameKind)} {p : Str × Nat}, p ∈ ownOf N l → N[p.2]? = some p.1
  | [], p, h => by simp [ownOf] at h
  | (x, k) :: r, p, h => by
    unfold ownOf at h
    cases k <;> simp only at h
    all_goals try exact ownOf_get h
    all_goals
      split at h
      · rename_i i hi
        rcases List.mem_cons.mp h with rfl | h
        · exact ixOf_get hi
        · exact ownOf_get h
      · exact ownOf_get h
/-- what holds around a comprehension holds in it -/
theorem Sf.blk (F : Sf E X G T k n) (scope : Scope) (hk : scope.kind = .function) (s : PySem.Shared) (H : Hp) (C : Addr) (cl : List (Str × Addr)) (fp : List Addr) :
    Sf (E.blk scope) (X.blk s H scope (PySem.compEnvC scope cl C X.env) fp) G T k n where
  sc := by
    show PySem.relabel scope X.env = L2.relS scope E.sc
    rw [← F.sc]; rfl
  N := F.N
  nd := F.nd
  kind := hk
  calm := F.calm
  pos := F.pos
  room := F.room
  units := F.units
  cls := F.cls
  gdef := fun x f m h => by
    obtain ⟨a, fd, ps, c, h1, h2⟩ := F.gdef x f m h
    exact ⟨a, fd, ps, ⟨c.1, c.2, c.3⟩, h1, h2⟩
  gcls := fun x c f m h => by
    obtain ⟨C, a, fd, ps, c, h1, h2⟩ := F.gcls x c f m h
    exact ⟨C, a, fd, ps, ⟨c.cls, c.made, ⟨c.ok.1, c.ok.2, c.ok.3⟩⟩, h1, h2⟩
  gcon := F.gcon
  gdic := F.gdic
  gexg := fun x c h => (F.gexg x c h).imp id fun ⟨C, m, l, e, hm⟩ => ⟨C, m, l, ⟨e.1, e.2, e.3, e.4, e.5, e.6⟩, hm⟩
  gxf := F.gxf
  gfree := F.gfree
  gexc := fun x c b h => by
    obtain ⟨C, h1, h2, h3⟩ := F.gexc x c b h
    exact ⟨C, h1, fun e => ⟨(h2 e).1, (h2 e).2, (h2 e).3, (h2 e).4, (h2 e).5, (h2 e).6, (h2 e).7⟩, h3⟩
  gis := F.gis
  fn := fun x h => h
  fnm := F.fnm
  mth := fun s mi m h => by
    have M := F.mth s mi m h
    refine ⟨M.nofld, fun c C f e1 e2 => ?_⟩
    obtain ⟨a, fd, ps, h1, c⟩ := M.at_ c C f e1 e2
    exact ⟨a, fd, ps, h1, ⟨c.1, c.2, c.3⟩⟩
theorem sto_get (F : Sf E X G T k n) {x : Str} {i : Nat} (h : stoOf E x = some i) : X.N[i]? = some x ∧ L2.Loc X.env.scope x ∧ (X.fn x = true ∨ X.env.scope.names.lookup x = some .local) := by
  unfold stoOf at h
  rw [F.N, F.sc]
  split at h
  · rename_i e; exact ⟨ixOf_get h, .inl e, .inr e⟩
  · rename_i e
    split at h
    · rename_i hf; exact ⟨ixOf_get h, .inr e, .inl (F.fn x hf)⟩
    · cases h
  · cases h
theorem blkC_kind {N : List Str} {sc scope : Scope} {own : List (Str × Nat)} (h : L2.blkC N sc scope own = true) : scope.kind = .function := (L2.blkOk_by h).kind
/-- every expression's translation is good -/
def Good (f : TrE → Expr → Ex) : Prop := ∀ (E : TrE) (X : L2.Cx) (G : Gt) (T : Tb) (k : Cxt) (n : Nat), Sf E X G T k n → ∀ e, SE X G k.xc e (ev T k (f E e)) ∧ ST X G k.xc e (evT T k (f E e))
theorem comp_facts (F : Sf E X G T k n) {f : TrE → Expr → Ex} (hf : Good f) {elt iter : Expr} {y : Str} {py : Pos} {ifs : List Expr} {scope : Scope} {i : Nat} {c : Ex} (hi : stoOf (E.blk scope) y = some i) (hc : trIfs (f (E.blk scope)) ifs = some c)
    (hm : i ∈ (ownOf E.N scope.names).map (·.2)) (hb : L2.blkC E.N E.sc scope (ownOf E.N scope.names) = true) (hn : notSet iter = true) :
    CompF X G T k y py scope ((ownOf E.N scope.names).map (·.2)) i iter ifs elt (trIt E (f E) iter) c (f (E.blk scope) elt) (ownOf E.N scope.names) where
  calm := fun h => F.calm.trans h
  nd := F.nd
  src := si_trIt F (fun e => (hf E X G T k n F e).1) iter
  ok := by rw [F.N, F.sc]; exact L2.blkOk_by hb
  wss := rfl
  mem := hm
  tg := fun s H C cl fp => by
    have FB := F.blk scope (blkC_kind hb) s H C cl fp
    obtain ⟨h1, h2, h3⟩ := sto_get FB hi
    exact L2.pg_name F.nd h1 h2 h3
  test := fun _ s H C cl fp => by
    have FB := F.blk scope (blkC_kind hb) s H C cl fp
    unfold trIfs at hc
    split at hc
    · cases hc; exact sts_nil
    · cases hc; exact sts_one (hf _ _ G T k n FB _).2
    · cases hc
  elts := fun _ s H C cl fp => (hf _ _ G T k n (F.blk scope (blkC_kind hb) s H C cl fp) elt).1
  plain := fun x => by
    cases iter <;> first | rfl | cases hn
theorem se_trComp (F : Sf E X G T k n) {f : TrE → Expr → Ex} (hf : Good f) (elt : Expr) (gs : List PySem.Comprehension) (scope : Scope) : SE X G k.xc (.ListComp elt gs scope pos) (ev T k (trComp E f elt gs scope)) := by
  unfold trComp
  split
  · simp only
    split
    · rename_i i c hi hc
      split
      · rename_i hh
        exact se_comp (comp_facts F hf hi hc hh.1 hh.2.1 hh.2.2)
      · exact se_no
    · exact se_no
  · exact se_no
theorem se_trCompK (F : Sf E X G T k n) {f : TrE → Expr → Ex} (hf : Good f) (elt : Expr) (gs : List PySem.Comprehension) (scope : Scope) : SE X G k.xc (.ListComp elt gs scope pos) (ev T k (trCompK E f elt gs scope)) := by
  unfold trCompK
  split
  · split
    · split
      · rename_i i c hi hc
        split
        · rename_i hh
          exact se_cmk (comp_facts F hf hi hc hh.1 hh.2 rfl) (hf E X G T k n F _).1
        · exact se_no
      · exact se_no
    · exact se_trComp F hf _ _ _
  · exact se_trComp F hf _ _ _
theorem st_of (h1 : SE X G k.xc e1 (ev T k x1)) (he : ∀ whole, PySem.isTrue e1 X.env whole = (do let v ← whole; PySem.standAt e1.pos; PySem.holding [v] (PySem.truthy v))) : SE X G k.xc e1 (ev T k x1) ∧ ST X G k.xc e1 (evT T k x1) := ⟨h1, st_truth h1 he⟩
theorem step_good {f : TrE → Expr → Ex} (hf : Good f) : Good (trStep f) := fun E X G T k n F e => by
  have h := fun e => (hf E X G T k n F e).1
  have ht := fun e => (hf E X G T k n F e).2
  cases e with
  | Name x p => exact st_of (se_name F) fun _ => rfl
  | Constant c j p => exact st_of se_const fun _ => rfl
  | Tuple es j p => exact st_of (se_tup (sa_trL h es)) fun _ => rfl
  | List es p =>
    refine st_of ?_ fun _ => rfl
    simp only [trStep]
    split
    · exact se_mls (sa_trL h es)
    · exact se_lst (sa_trL h es)
  | BinOp a o b p =>
    refine st_of ?_ fun _ => rfl
    simp only [trStep]
    split
    · rename_i q hq
      exact se_bin (ops_bin F.units hq) (h a) (h b)
    · exact se_no
  | UnaryOp o a p =>
    cases o with
    | Not => exact ⟨se_not (h a), st_not (ht a)⟩
    | USub => exact st_of (se_neg (h a)) fun _ => rfl
    | _ => exact ⟨se_no, st_no⟩
  | BoolOp o es p => exact ⟨se_trBool h o es, st_trBool ht o es⟩
  | IfExp c a b p => exact ⟨se_ite (ht c) (h a) (h b), st_if (ht c) (ht a) (ht b)⟩
  | Compare a ops cs p => exact se_trCmp F h a ops cs
  | Subscript a b p => exact st_of (se_trSub F h a b) fun _ => rfl
  | Attribute o nm p => exact st_of (se_trAtt F h o nm) fun _ => rfl
  | Dict ks vs p => exact st_of (se_trDict h ks vs) fun _ => rfl
  | Call fn args kws p => exact st_of (se_trCall F h fn args kws) fun _ => rfl
  | ListComp elt gs scope p => exact st_of (se_trCompK F hf elt gs scope) fun _ => rfl
  | _ => exact ⟨se_no, st_no⟩
theorem trE_good : ∀ n : Nat, Good (trE n)
  | 0 => fun E X G T k n F e => ⟨se_no, st_no⟩
  | n + 1 => step_good (trE_good n)
end
end Py

namespace Py
open PySem (Addr Value Obj Expr Pos Stmt Scope Str NameKind)
def trT1 (E : TrE) (f : Expr → Ex) : Expr → Option Tg
  | .Name x _ => (stoOf E x).map .nm
  | .Attribute o nm _ => (E.fno nm).map fun i => .at (f o) i
  | .Subscript o i _ => if noSl i then some (.sub (f o) (f i)) else none
  | _ => none
def trTs (E : TrE) (f : Expr → Ex) : List Expr → Option Tg
  | [] => some .nil
  | t :: ts => (trT1 E f t).bind fun a => (trTs E f ts).map fun b => .cons a b
def trT (E : TrE) (f : Expr → Ex) : Expr → Option Tg
  | .Tuple ts _ _ => (trTs E f ts).map .tup
  | t => trT1 E f t
theorem plain_set {e : Expr} {env : PySem.Env} {x : Value} (h : notSet e = true) : PySem.foldedSetIterable e env x = pure x := by
  cases e <;> first | rfl | cases h
def noComp : Expr → Bool
  | .ListComp .. | .SetComp .. | .DictComp .. => false
  | _ => true
def notName : Expr → Bool
  | .Name .. => false
  | _ => true
def noPair : Expr → Expr → Bool
  | .Tuple .., .Tuple .. => false
  | .List .., .Tuple .. => false
  | _, _ => true
def isLoc (E : TrE) (x : Str) : Bool := E.sc.names.lookup x == some .local
def trNorm (E : TrE) (f : Expr → Ex) (tg e : Expr) : Py.St := match trT E f tg with
  | some t => .asg t (f e)
  | none => .nev
def trPar (E : TrE) (f : Expr → Ex) (ts vs : List Expr) (ns : List Str) : Py.St := match ts, vs, ns with
  | [.Name x _, .Name y _], [a, b], [x', y'] => match ixOf x E.N, ixOf y E.N with
    | some i, some j => if x' = x ∧ y' = y ∧ i ≠ j ∧ isLoc E x = true ∧ isLoc E y = true then .par [i, j] (trL f [a, b]) else .nev
    | _, _ => .nev
  | [.Name x _, .Name y _, .Name z _], [a, b, c], [x', y', z'] => match ixOf x E.N, ixOf y E.N, ixOf z E.N with
    | some i, some j, some l => if x' = x ∧ y' = y ∧ z' = z ∧ i ≠ j ∧ i ≠ l ∧ j ≠ l ∧ isLoc E x = true ∧ isLoc E y = true ∧ isLoc E z = true then .par [i, j, l] (trL f [a, b, c]) else .nev
    | _, _, _ => .nev
  | _, _, _ => .nev
def trAsg (E : TrE) (f : TrE → Expr → Ex) (tg e : Expr) : Py.St := match tg, e with
  | .Name z _, .ListComp elt gs scope _ => match stoOf E z with
    | some i => .asg (.nm i) (trComp E f elt gs scope)
    | none => .nev
  | .Tuple ts _ _, .Tuple vs _ _ => match swapN E.sc ts vs with
    | some (some ns) => trPar E (f E) ts vs ns
    | some none => trNorm E (f E) tg e
    | none => .nev
  | tg, e => if noPair tg e = true ∧ (noComp e = true ∨ notName tg = true) then trNorm E (f E) tg e else .nev
def trSs (g : Stmt → Py.St) : List Stmt → Py.St
  | [] => .skip
  | s :: r => .seq (g s) (trSs g r)
def trStm (E : TrE) (f : TrE → Expr → Ex) (g : Stmt → Py.St) : Stmt → Py.St
  | .Pass _ => .skip
  | .Expr (.Constant (.str _) _ _) _ => .skip
  | .Expr e _ => if noComp e then .exp (f E e) else .nev
  | .Return none _ => .ret (.cst .non)
  | .Return (some e) _ => .ret (f E e)
  | .If c a b _ => .ife (f E c) (trSs g a) (trSs g b)
  | .Assign [tg] e _ => trAsg E f tg e
  | .For tg iter body [] _ => match trT E (f E) tg with
    | some t => if notSet iter then .forr t (trIt E (f E) iter) (trSs g body) else .nev
    | none => .nev
  | .While c body [] _ => .whl 1000000 (f E c) (trSs g body)
  | .AugAssign (.Attribute o nm _) op e _ => match E.fno nm with
    | some i => match op with
      | .Add => .augf (f E o) i .add (f E e)
      | .Sub => .augf (f E o) i .sub (f E e)
      | _ => .nev
    | none => .nev
  | .Raise (some (.Call (.Name x _) [] [] _)) none _ => if isGl E x then match E.gk x with
    | .xc c true => .rai c .nil
    | _ => .nev
    else .nev
  | .Raise (some (.Call (.Name x _) (e :: es) [] _)) none _ => if isGl E x = true ∧ (e :: es).all plainE = true then (match E.gk x with
    | .xc c false => .rai c (trL (f E) (e :: es))
    | _ => .nev)
    else .nev
  | .Try body [.ExceptHandler (some (.Name x _)) (some n) (b₀ :: suite) _] [] [] _ => if isGl E x = true ∧ isLoc E n = true then match E.gk x, ixOf n E.N with
    | .xc c _, some i => .tri (trSs g body) c i (trSs g (b₀ :: suite))
    | _, _ => .nev
    else .nev
  | _ => .nev
def trS (E : TrE) : Nat → Stmt → Py.St
  | 0 => fun _ => .nev
  | n + 1 => trStm E (trE 40) (trS E n)
section
variable {E : TrE} {X : L2.Cx} {G : Gt} {T : Tb} {k : Cxt} {n : Nat} {pos p0 p1 apos : Pos} {e e1 e2 e3 tg : Expr} {x1 x2 x3 : Ex}
theorem sg_trT1 (F : Sf E X G T k n) {f : Expr → Ex} (h : ∀ e, SE X G k.xc e (ev T k (f e))) {tg : Expr} {t : Tg} (e : trT1 E f tg = some t) : SG X G k.xc tg (asn T k t) ∧ plainE tg = true := by
  unfold trT1 at e
  split at e
  · obtain ⟨i, hi, rfl⟩ := Option.map_eq_some_iff.mp e
    obtain ⟨h1, h2, h3⟩ := sto_get F hi
    exact ⟨sg_name (L2.pg_name F.nd h1 h2 h3), rfl⟩
  · obtain ⟨i, hi, rfl⟩ := Option.map_eq_some_iff.mp e
    exact ⟨sg_fld F.cls (F.fnm _ _ hi) (h _), rfl⟩
  · rename_i o i p
    split at e
    · rename_i hn
      cases e
      exact ⟨sg_sub (by have := F.units; omega) (h _) (h _) (fun v => by (cases i <;> first | rfl | cases hn)), rfl⟩
    · cases e
  · cases e
theorem assign_cons {env : PySem.Env} {tg : Expr} {ts : List Expr} (h : plainE tg = true) : PySem.assignEach (tg :: ts) env = (false, PySem.assign tg env) :: PySem.assignEach ts env := by
  cases tg <;> first | rfl | cases h
theorem sgs_trTs (F : Sf E X G T k n) {f : Expr → Ex} (h : ∀ e, SE X G k.xc e (ev T k (f e))) : ∀ {ts : List Expr} {t : Tg}, trTs E f ts = some t → SGs X G k.xc ts (asns T k t) ∧
    (∀ ws ρ h ρ' h', asns T k t ws ρ h = .ok ρ' h' → ws.length = ts.length) ∧ (PySem.assignEach ts X.env).length = ts.length ∧ (PySem.assignEach ts X.env).findIdx? (·.1) = none
  | [], t, e => by
    cases e
    refine ⟨sgs_nil, fun ws ρ h ρ' h' e => ?_, rfl, rfl⟩
    cases ws with
    | nil => rfl
    | cons => simp [asns] at e
  | tg :: ts, t, e => by
    unfold trTs at e
    obtain ⟨a, ha, e⟩ := Option.bind_eq_some_iff.mp e
    obtain ⟨b, hb, rfl⟩ := Option.map_eq_some_iff.mp e
    obtain ⟨g1, pl⟩ := sg_trT1 F h ha
    obtain ⟨g2, l2, n2, d2⟩ := sgs_trTs F h hb
    refine ⟨sgs_cons g1 g2 (by rw [assign_cons pl]; rfl), fun ws ρ h ρ' h' e => ?_, by rw [assign_cons pl, List.length_cons, List.length_cons, n2], ?_⟩
    · cases ws with
      | nil => simp [asns] at e
      | cons w ws =>
        simp only [asns] at e
        cases e1 : asn T k a w ρ h with
        | ok ρ1 h1 =>
          rw [e1, Res.bind_ok] at e
          rw [List.length_cons, List.length_cons, l2 _ _ _ _ _ e]
        | exc => rw [e1] at e; cases e
        | bad => rw [e1] at e; cases e
    · rw [assign_cons pl, List.findIdx?_cons, d2]; rfl
theorem sg_trT (F : Sf E X G T k n) {f : Expr → Ex} (h : ∀ e, SE X G k.xc e (ev T k (f e))) {tg : Expr} {t : Tg} (e : trT E f tg = some t) : SG X G k.xc tg (asn T k t) ∧ plainE tg = true := by
  unfold trT at e
  split at e
  · obtain ⟨a, ha, rfl⟩ := Option.map_eq_some_iff.mp e
    obtain ⟨g2, l2, n2, d2⟩ := sgs_trTs F h ha
    exact ⟨sg_tup (fun c => F.calm.trans c) g2 l2 n2 d2, rfl⟩
  · exact sg_trT1 F h e
theorem sw_no {t : Option Expr} {l : Nat} {env : PySem.Env} (h : noComp e = true) : PySem.swapsWith e t l env = pure false := by
  cases e <;> first | rfl | cases h
theorem sw_sole {l : Nat} {env : PySem.Env} (h : noComp e = true ∨ notName tg = true) : PySem.swapsWithSole [tg] e l env = pure false := by
  show PySem.swapsWith e (some tg) l env = pure false
  rcases h with h | h
  · exact sw_no h
  · cases tg <;> first | (cases h; done) | skip
    all_goals (cases e <;> rfl)
theorem swp_no {env : PySem.Env} (h : noPair tg e = true) : PySem.swappedStores [tg] e env = pure none := by
  cases tg <;> first | rfl | (cases e <;> first | rfl | cases h)
theorem ss_trNorm (F : Sf E X G T k n) {f : Expr → Ex} (h : ∀ e, SE X G k.xc e (ev T k (f e))) (hs : noComp e = true ∨ notName tg = true) (hw : PySem.swappedStores [tg] e X.env = pure none) : SS X G k.xc (.Assign [tg] e pos) (run T (trNorm E f tg e) k) := by
  unfold trNorm
  split
  · rename_i t ht
    obtain ⟨g, pl⟩ := sg_trT F h ht
    exact ss_asg (h e) g (sw_sole hs) hw (by rw [assign_cons pl]; rfl)
  · exact ss_nev
theorem isLoc_get (F : Sf E X G T k n) {x : Str} (h : isLoc E x = true) : X.env.scope.names.lookup x = some .local := by
  rw [F.sc]; simpa [isLoc] using h
theorem ss_trPar (F : Sf E X G T k n) {f : Expr → Ex} (h : ∀ e, SE X G k.xc e (ev T k (f e))) {ts vs : List Expr} {ns : List Str} {j1 j2 : Nat} {q1 q2 : Pos} (hw : PySem.swappedStores [.Tuple ts j1 q1] (.Tuple vs j2 q2) X.env = pure (some ns)) :
    SS X G k.xc (.Assign [.Tuple ts j1 q1] (.Tuple vs j2 q2) pos) (run T (trPar E f ts vs ns) k) := by
  have hc : k.calm = true → X.calm = true := fun c => F.calm.trans c
  unfold trPar
  split
  · split
    · rename_i i j hi hj
      split
      · rename_i hh
        obtain ⟨rfl, rfl, hij, lx, ly⟩ := hh
        exact ss_par2A hc F.nd (by rw [F.N]; exact ixOf_get hi) (by rw [F.N]; exact ixOf_get hj) hij (isLoc_get F lx) (isLoc_get F ly) (sa_trL h _) hw rfl
      · exact ss_nev
    · exact ss_nev
  · split
    · rename_i i j l hi hj hl
      split
      · rename_i hh
        obtain ⟨rfl, rfl, rfl, hij, hil, hjl, lx, ly, lz⟩ := hh
        by_cases hk : k.calm = true
        · exact ss_par3 hk hc F.nd (by rw [F.N]; exact ixOf_get hi) (by rw [F.N]; exact ixOf_get hj) (by rw [F.N]; exact ixOf_get hl) hij hil hjl (isLoc_get F lx) (isLoc_get F ly) (isLoc_get F lz) (sa_trL h _) hw rfl
        · refine ss_parN ?_
          unfold parOk
          cases e : k.xc with
          | none => exact absurd (by rw [Cxt.calm, e]) hk
          | some z => rfl
      · exact ss_nev
    · exact ss_nev
  · exact ss_nev
theorem asg_no {T : Tb} {k : Cxt} {t : Tg} {ρ : Env} {h : MH} : run T (.asg t .no) k ρ h = .bad := by simp [run, ev, stm]
theorem ss_bad {st : Stmt} {m : Env → MH → Out} (hm : ∀ ρ h, m ρ h = .bad) : SS X G k.xc st m := fun W' tk => ⟨fun pins s σ H D I q => by
  obtain ⟨al, ρ, h, a, p⟩ := q
  rw [hm] at p
  exact p.elim⟩
theorem ss_trLc (F : Sf E X G T k n) {f : TrE → Expr → Ex} (hf : Good f) {z : Str} {pz p : Pos} {elt : Expr} {gs : List PySem.Comprehension} {scope : Scope} {i : Nat} (hi : stoOf E z = some i) : SS X G k.xc (.Assign [.Name z pz] (.ListComp elt gs scope p) pos) (run T (.asg (.nm i) (trComp E f elt gs scope)) k) := by
  obtain ⟨h1, h2, h3⟩ := sto_get F hi
  have hb : X.env.blockKind = .function := by unfold PySem.Env.blockKind; rw [F.sc, F.kind]; rfl
  have hsw : ∃ b, PySem.swapsWith (.ListComp elt gs scope p) (some (.Name z pz)) pos.line X.env = pure b ∧ (b = true → X.env.scope.names.lookup z = some .local) := by
    refine ⟨_, by unfold PySem.swapsWith; rfl, fun hb2 => ?_⟩
    simp only [Bool.and_eq_true, beq_iff_eq] at hb2
    exact hb2.1.1.2
  obtain ⟨b, hsw, hloc⟩ := hsw
  cases b with
  | false => exact ss_asg (se_trComp F hf elt gs scope) (sg_name (L2.pg_name F.nd h1 h2 h3)) hsw rfl rfl
  | true =>
    unfold trComp
    split
    · simp only
      split
      · rename_i i c hi hc
        split
        · rename_i hh
          exact ss_lc (comp_facts F hf hi hc hh.1 hh.2.1 hh.2.2) h1 (hloc rfl) hsw
        · exact ss_bad fun _ _ => asg_no
      · exact ss_bad fun _ _ => asg_no
    · exact ss_bad fun _ _ => asg_no
theorem ss_trAsg (F : Sf E X G T k n) {f : TrE → Expr → Ex} (hf : Good f) (tg e : Expr) : SS X G k.xc (.Assign [tg] e pos) (run T (trAsg E f tg e) k) := by
  have h := fun e => (hf E X G T k n F e).1
  unfold trAsg
  split
  · split
    · rename_i i hi
      exact ss_trLc F hf hi
    · exact ss_nev
  · split
    · rename_i ns hs
      exact ss_trPar F h (swapN_ok (by rw [F.sc]; exact F.kind) (by rw [F.sc]; exact hs))
    · rename_i hs
      exact ss_trNorm F h (.inl rfl) (swapN_ok (by rw [F.sc]; exact F.kind) (by rw [F.sc]; exact hs))
    · exact ss_nev
  · split
    · rename_i hh
      exact ss_trNorm F h hh.2 (swp_no hh.1)
    · exact ss_nev
theorem sss_trSs {g : Stmt → Py.St} (hg : ∀ st, SS X G k.xc st (run T (g st) k)) : ∀ sts : List Stmt, SSs X G k.xc sts (run T (trSs g sts) k)
  | [] => sss_nil
  | s :: r => sss_cons (hg s) (sss_trSs hg r)
/-- what a def's frame gives its statements -/
structure Sx (X : L2.Cx) (k : Cxt) : Prop where
  pass : k.calm = true → PySem.PassesOwn (PySem.model X.prog X.w) X.A X.env X.xe
  stk : X.stack = X.env :: X.outer
  frm : X.env.frame = some X.env.locals
theorem Sf.tr (F : Sf E X G T k n) (pn : List (Addr × Obj)) (xe : Value → PySem.Shared → Prop) : Sf E (X.tr pn xe) G T k n where
  sc := F.sc
  N := F.N
  nd := F.nd
  kind := F.kind
  calm := F.calm
  pos := F.pos
  room := F.room
  units := F.units
  cls := F.cls
  gdef := fun x f m h => by
    obtain ⟨a, fd, ps, c, h1, h2⟩ := F.gdef x f m h
    exact ⟨a, fd, ps, ⟨c.1, c.2, c.3⟩, h1, h2⟩
  gcls := fun x c f m h => by
    obtain ⟨C, a, fd, ps, c, h1, h2⟩ := F.gcls x c f m h
    exact ⟨C, a, fd, ps, ⟨c.cls, c.made, ⟨c.ok.1, c.ok.2, c.ok.3⟩⟩, h1, h2⟩
  gcon := F.gcon
  gdic := F.gdic
  gexg := fun x c h => (F.gexg x c h).imp id fun ⟨C, m, l, e, hm⟩ => ⟨C, m, l, ⟨e.1, e.2, e.3, e.4, e.5, e.6⟩, hm⟩
  gxf := F.gxf
  gfree := F.gfree
  gexc := fun x c b h => by
    obtain ⟨C, h1, h2, h3⟩ := F.gexc x c b h
    exact ⟨C, h1, fun e => ⟨(h2 e).1, (h2 e).2, (h2 e).3, (h2 e).4, (h2 e).5, (h2 e).6, (h2 e).7⟩, h3⟩
  gis := F.gis
  fn := F.fn
  fnm := F.fnm
  mth := fun s mi m h => by
    have M := F.mth s mi m h
    refine ⟨M.nofld, fun c C f e1 e2 => ?_⟩
    obtain ⟨a, fd, ps, h1, c⟩ := M.at_ c C f e1 e2
    exact ⟨a, fd, ps, h1, ⟨c.1, c.2, c.3⟩⟩
theorem call_bad {X : L2.Cx} {G : Gt} {n m : Nat} {a : Addr} {fd : PySem.FuncData} {ps : List Str} {g : List W → MH → Res W} (hl : ps.length = m) (hb : L2.Binds X.K fd ps []) (hg : ∀ ws h, g ws h = .bad) : CallF X G n g m a fd ps :=
  ⟨hl, hb, ⟨fun vs H Q E h => h.1.trans hl.symm, fun A outer s H args us vs Q E _ _ _ _ h => by
    obtain ⟨_, al, h, ws, _, _, q⟩ := h
    rw [hg] at q
    exact q.elim⟩⟩
theorem Sf.suite (F : Sf E X G T k n) (a : Addr) (pn : List (Addr × Obj)) (z : Nat × Nat × List (Nat × W)) : Sf E (X.suite a pn) G T ⟨badC, badC, some z⟩ n where
  sc := F.sc
  N := F.N
  nd := F.nd
  kind := F.kind
  calm := rfl
  pos := F.pos
  room := fun h => by cases h
  units := F.units
  cls := F.cls
  gdef := fun x f m h => by
    obtain ⟨a, fd, ps, c, h1, h2⟩ := F.gdef x f m h
    exact ⟨a, fd, ps, call_bad c.1 c.2 fun _ _ => rfl, h1, h2⟩
  gcls := fun x c f m h => by
    obtain ⟨C, a, fd, ps, c, h1, h2⟩ := F.gcls x c f m h
    exact ⟨C, a, fd, ps, ⟨c.cls, c.made, call_bad c.ok.1 c.ok.2 fun _ _ => rfl⟩, h1, h2⟩
  gcon := F.gcon
  gdic := F.gdic
  gexg := fun x c h => (F.gexg x c h).imp id fun ⟨C, m, l, e, hm⟩ => ⟨C, m, l, ⟨e.1, e.2, e.3, e.4, e.5, e.6⟩, hm⟩
  gxf := F.gxf
  gfree := F.gfree
  gexc := fun x c b h => by
    obtain ⟨C, h1, h2, h3⟩ := F.gexc x c b h
    exact ⟨C, h1, fun e => ⟨(h2 e).1, (h2 e).2, (h2 e).3, (h2 e).4, (h2 e).5, (h2 e).6, (h2 e).7⟩, h3⟩
  gis := F.gis
  fn := F.fn
  fnm := F.fnm
  mth := fun s mi m h => by
    have M := F.mth s mi m h
    refine ⟨M.nofld, fun c C f e1 e2 => ?_⟩
    obtain ⟨a, fd, ps, h1, c⟩ := M.at_ c C f e1 e2
    exact ⟨a, fd, ps, h1, call_bad c.1 c.2 fun _ _ => rfl⟩
def GoodS (E : TrE) (G : Gt) (T : Tb) (n : Nat) (g : Stmt → Py.St) : Prop := ∀ (X : L2.Cx) (k : Cxt), Sf E X G T k n → Sx X k → ∀ st, SS X G k.xc st (run T (g st) k)
theorem tri_bad {T : Tb} {k : Cxt} {a b : Py.St} {c i : Nat} {ρ : Env} {h : MH} (hx : ¬ k.xc = none) : run T (.tri a c i b) k ρ h = .bad := by
  simp only [run]
  split
  · rfl
  · rename_i e; exact absurd e hx
theorem ss_trTry (F : Sf E X G T k n) (S : Sx X k) {g : Stmt → Py.St} (hg : GoodS E G T n g) {x nm : Str} {np pos' : Pos} {body suite : List Stmt} {b₀ : Stmt} {c i : Nat} {b : Bool} (hx : isGl E x = true) (hn : isLoc E nm = true) (hk : E.gk x = .xc c b) (hi : ixOf nm E.N = some i) :
    SS X G k.xc (.Try body [.ExceptHandler (some (.Name x np)) (some nm) (b₀ :: suite) pos'] [] [] pos) (run T (.tri (trSs g body) c i (trSs g (b₀ :: suite))) k) := by
  obtain ⟨gl, bn⟩ := F.gl hx
  obtain ⟨b1, _, _⟩ := badName_no bn
  obtain ⟨C, h1, _, h3⟩ := F.gexc x c b hk
  by_cases hxc : k.xc = none
  case neg => exact ss_bad fun ρ h => tri_bad hxc
  have hkk : (⟨k.C, k.M, none⟩ : Cxt) = k := by cases k; simp at hxc; subst hxc; rfl
  refine ss_tri S.stk S.frm F.nd (by rw [F.N]; exact ixOf_get hi) (isLoc_get F hn) ⟨gl, b1, .inl h1⟩ h3 (fun pn xe hp => ?_) fun a pn c' fs => ?_
  · rw [hkk]
    have := sss_trSs (hg (X.tr pn xe) k (F.tr pn xe) ⟨fun _ => hp, S.stk, S.frm⟩) body
    rw [hxc] at this
    exact this
  · exact sss_trSs (hg (X.suite a pn) ⟨badC, badC, some (i, c', fs)⟩ (F.suite a pn _) ⟨fun h => (by cases h), S.stk, S.frm⟩) (b₀ :: suite)
theorem stm_good {f : TrE → Expr → Ex} (hf : Good f) {g : Stmt → Py.St} (hg : GoodS E G T n g) : GoodS E G T n (trStm E f g) := fun X k F S st => by
  have h := fun e => (hf E X G T k n F e).1
  have ht := fun e => (hf E X G T k n F e).2
  have hg1 := hg X k F S
  unfold trStm
  split
  · exact ss_pass
  · exact ss_doc
  · split
    · rename_i hn
      exact ss_exp (h _) (sw_no hn)
    · exact ss_nev
  · exact ss_retN
  · exact ss_ret (h _)
  · exact ss_if (ht _) (sss_trSs hg1 _) (sss_trSs hg1 _)
  · exact ss_trAsg F hf _ _
  · split
    · rename_i t ht
      split
      · rename_i hn
        exact ss_for S.pass (fun c => F.calm.trans c) (si_trIt F h _) (sg_trT F h ht).1 (sss_trSs hg1 _) fun x => plain_set hn
      · exact ss_nev
    · exact ss_nev
  · exact ss_whl S.pass (ht _) (sss_trSs hg1 _)
  · split
    · rename_i i hi
      split
      · exact ss_augf F.cls (F.fnm _ _ hi) (.inl ⟨rfl, rfl⟩) (h _) (h _)
      · exact ss_augf F.cls (F.fnm _ _ hi) (.inr ⟨rfl, rfl⟩) (h _) (h _)
      · exact ss_nev
    · exact ss_nev
  · split
    · rename_i hx
      split
      · rename_i c hk
        obtain ⟨gl, bn⟩ := F.gl hx
        obtain ⟨C, h1, h2, _⟩ := F.gexc _ c true hk
        exact ss_rai0 (fun c => F.calm.trans c) (h2 rfl) gl (badName_no bn).1
      · exact ss_nev
    · exact ss_nev
  · split
    · rename_i hx
      split
      · rename_i c hk
        obtain ⟨gl, bn⟩ := F.gl hx.1
        rcases F.gexg _ c hk with he | ⟨C, m, l, G1, hm⟩
        · exact ss_bad fun ρ hh => by
            simp only [run, he]
            split <;> rfl
        · have hr : k.calm = true → L2.Room (n - 1 + 2) X.A := fun c => by
            have := F.pos
            rw [show n - 1 + 2 = n + 1 by omega]; exact F.room c
          exact ss_rai (fun c => F.calm.trans c) hr G1 gl (badName_no bn).1 (sa_trL h _) (star_map hx.2) hm
      · exact ss_nev
    · exact ss_nev
  · split
    · rename_i hh
      split
      · rename_i c b i hk hi
        exact ss_trTry F S hg hh.1 hh.2 hk hi
      · exact ss_nev
    · exact ss_nev
  · exact ss_nev
theorem trS_good : ∀ (m : Nat), GoodS E G T n (trS E m)
  | 0 => fun X k F S st => ss_nev
  | m + 1 => stm_good (trE_good 40) (trS_good m)
end
end Py

namespace Py
open PySem (Addr Value Obj Expr Pos Stmt Scope Str NameKind)
structure DF where
  d : He.DefD
  N : List Str
  ps : List Str
  mls : Pos → Bool
  xn : List Str := []
structure PD where
  dfs : Nat → Option DF
  T : Tb
  gk : Str → Gk
  fno : Str → Option Nat
  mth : Str → Nat → Option Nat
def PD.E (P : PD) (D : DF) : TrE := ⟨D.d.scope, fun _ => true, D.N, P.gk, P.fno, P.mth, D.mls, fun x => D.xn.contains x⟩
def PD.body (P : PD) (D : DF) : Py.St := trSs (trS (P.E D) 30) D.d.body
def PD.pg (P : PD) : Pg := ⟨P.T, fun f => (P.dfs f).map fun D => (D.ps.length, D.N.length, P.body D)⟩
structure KF (P : PD) (K : Frag) (mg : Str → Option Value) (G : Gt) (Pr : PySem.Program) (w : PySem.World) : Prop where
  fd : ∀ (f : Nat) (D : DF), P.dfs f = some D → ∃ fd, L2.FunD K D.d.name D.d.qual D.d.params D.d.body D.d.scope [] [] (He.fAd K D.d.at_) fd ∧ L2.Binds K fd D.ps []
  S : ∀ (f : Nat) (D : DF), P.dfs f = some D → L2.FnScope D.N D.ps D.d.scope
  cls : ClsF K G P.T
  gdef : ∀ x f m, P.gk x = .df f m → ∃ D : DF, P.dfs f = some D ∧ D.ps.length = m ∧ mg x = some (.ref (He.fAd K D.d.at_))
  gcls : ∀ x c f m, P.gk x = .cl c f m → ∃ (C : Addr) (D : DF), G.cls c = some C ∧ P.dfs f = some D ∧ L2.Mk K C (He.fAd K D.d.at_) ∧ D.ps.length = m ∧ P.T.init c = some f ∧ mg x = some (.ref C)
  gcon : ∀ x w, P.gk x = .con w → ∃ v u, mg x = some u ∧ L2.RelV v u ∧ ∀ H al, Rep K H al v w
  gdic : ∀ x kvs, P.gk x = .dic kvs → ∃ a, mg x = some (.ref a) ∧ DicF K w a kvs
  gexg : ∀ x c, P.gk x = .xc c false → P.T.exf c = none ∨ ∃ C m l, (∀ X : L2.Cx, X.K = K → X.mg = mg → X.prog = Pr → ExcG X G P.T c C x m l) ∧ m ≤ 1000
  gxf : ∀ s f c C, P.fno s = some f → G.xcl c = some C → xfOk P.T c f = true → L2.XfC K C ∧ PySem.W.findIn K (.ref C) s = some none
  gfree : ∀ x, P.gk x = .free → mg x = none
  gexc : ∀ x c b, P.gk x = .xc c b → ∃ C, mg x = some (.ref C) ∧ (b = true → G.xcl c = some C ∧ PySem.W.excIn K C He.veBase "ValueError.__new__" = true ∧ PySem.W.keepIn K (.ref C) = true ∧ PySem.W.subIn K (.ref C) (.type "BaseException") = some true ∧ PySem.W.typeIn K (.ref C) = some (.type "type") ∧ P.T.exf c = some (0, [])) ∧
    ∀ c' C', G.xcl c' = some C' → PySem.W.exmOne K (.ref C') (.ref C) = some (P.T.sub c' c)
  gis : ∀ x c b C, P.gk x = .xc c b → mg x = some (.ref C) → ∀ c' C', G.xcl c' = some C' → L2.ExcC K C' ∧ PySem.W.kitOne K (.ref C') (.ref C) = some (P.T.sub c' c)
  fnm : ∀ s f, P.fno s = some f → s = G.fnm f
  meth : ∀ s mi m, P.mth s m = some mi → (∀ c g f, P.T.meth mi c = some g → G.fok c f = true → G.fnm f ≠ s) ∧ ∀ c C f, G.cls c = some C → P.T.meth mi c = some f → ∃ D : DF, P.dfs f = some D ∧ D.ps.length = m ∧ L2.Meth K C s (He.fAd K D.d.at_)
section
variable {P : PD} {K : Frag} {mg : Str → Option Value} {G : Gt} {Pr : PySem.Program} {w : PySem.World} {base : PySem.Heap}
theorem fn_bad {n m : Nat} {a : Addr} {fd : PySem.FuncData} {ps : List Str} {g : List W → MH → Res W} (hm : ps.length = m) (hg : ∀ ws h, g ws h = .bad) : L2.FnOk Pr w K mg base (L2N.CX Pr w) n a fd ps (spF K G g m) :=
  ⟨fun vs H Q E h => h.1.trans hm.symm, fun A outer s H args us vs Q E _ _ _ _ h => by
    obtain ⟨_, al, h, ws, _, _, q⟩ := h
    rw [hg] at q
    exact q.elim⟩
theorem esim_start {H : Hp} {al : AL} {N : List Str} {vs : List HV} {ws : List W} (r : RepL K H al vs ws) : ESim K H al (L2.start N vs) (startE N.length ws) := by
  have hl := r.length
  refine ⟨by simp [L2.start, startE, hl], fun i x q => ?_⟩
  unfold startE at q
  unfold L2.start
  by_cases h : i < ws.length
  · rw [List.getElem?_append_left (by simpa using h)] at q
    rw [List.getElem?_append_left (by simpa [hl] using h)]
    rw [List.getElem?_map] at q ⊢
    obtain ⟨w, e1, e2⟩ := Option.map_eq_some_iff.mp q
    cases e2
    obtain ⟨v, e3, rv⟩ := r.get e1
    exact ⟨v, by rw [e3]; rfl, rv⟩
  · rw [List.getElem?_append_right (by simpa using h)] at q
    have := List.mem_of_getElem? q
    have := (List.mem_replicate.mp this).2
    cases this
theorem pg_call {n f : Nat} {D : DF} (hD : P.dfs f = some D) {ws : List W} (hl : ws.length = D.ps.length) (h : MH) : call P.pg (n + 1) f ws h = (run P.T (P.body D) ⟨call P.pg n, callM P.pg n, none⟩ (startE D.N.length ws) h).res := by
  rw [call_succ]
  have e : P.pg.fn f = some (D.ps.length, D.N.length, P.body D) := by show (P.dfs f).map _ = _; rw [hD]; rfl
  unfold bodyC
  rw [e]
  exact if_pos hl
theorem fn_ok (F : KF P K mg G Pr w) : ∀ (n f : Nat) (D : DF) (fd : PySem.FuncData), P.dfs f = some D → L2.FunD K D.d.name D.d.qual D.d.params D.d.body D.d.scope [] [] (He.fAd K D.d.at_) fd →
    L2.FnOk Pr w K mg base (L2N.CX Pr w) (n + 2) (He.fAd K D.d.at_) fd D.ps (spF K G (call P.pg n f) D.ps.length)
  | 0, f, D, fd, _, _ => fn_bad rfl fun _ _ => rfl
  | n + 1, f, D, fd, hD, hF => by
    refine hF.ok (F.S f D hD) (fun vs H Q E h => h.1) fun cdv A outer s H vs Q E hr h => ?_
    obtain ⟨hlen, al, h, ws, hs, rl, q⟩ := h
    have hl : ws.length = D.ps.length := by rw [← rl.length]; exact hlen
    rw [pg_call hD hl] at q
    have FS : Sf (P.E D) (L2.cxOf (L2N.CX Pr w) Pr w K mg base D.N D.d.qual D.d.scope (He.fAd K D.d.at_) cdv A outer s H E) G P.T ⟨call P.pg n, callM P.pg n, none⟩ (n + 1) := {
      pos := Nat.le_add_left 1 n
      sc := rfl
      N := rfl
      nd := (F.S f D hD).nd
      kind := (F.S f D hD).kind
      calm := rfl
      room := fun _ => hr
      units := by have := hr.un; show (A.deeper _).units + 200 < _; omega
      cls := F.cls
      gdef := fun x g m hx => by
        obtain ⟨D2, h1, h2, h3⟩ := F.gdef x g m hx
        obtain ⟨fd2, hf2, hb2⟩ := F.fd g D2 h1
        subst h2
        exact ⟨_, fd2, D2.ps, ⟨rfl, hb2, fn_ok F n g D2 fd2 h1 hf2⟩, h3, hf2.kp⟩
      gcls := fun x c g m hx => by
        obtain ⟨C, D2, h0, h1, h2, h3, h4, h5⟩ := F.gcls x c g m hx
        obtain ⟨fd2, hf2, hb2⟩ := F.fd g D2 h1
        subst h3
        refine ⟨C, _, fd2, D2.ps, ⟨h0, h2, ⟨rfl, hb2, ?_⟩⟩, h4, h5⟩
        cases n with
        | zero => exact fn_bad rfl fun _ _ => rfl
        | succ n => exact fn_ok F n g D2 fd2 h1 hf2
      gcon := F.gcon
      gdic := F.gdic
      gexg := fun x c h => (F.gexg x c h).imp id fun ⟨C, m, l, e, hm⟩ => ⟨C, m, l, e _ rfl rfl rfl, hm⟩
      gxf := F.gxf
      gfree := F.gfree
      gexc := fun x c b hx => by
        obtain ⟨C, h1, h2, h3⟩ := F.gexc x c b hx
        refine ⟨C, h1, fun e => ?_, h3⟩
        obtain ⟨q1, q2, q3, q4, q5, q6⟩ := h2 e
        exact ⟨q1, q2, q3, q4, q5, h1, q6⟩
      gis := F.gis
      fn := fun _ _ => rfl
      fnm := F.fnm
      mth := fun s mi m hs => by
        obtain ⟨h0, h1⟩ := F.meth s mi m hs
        refine ⟨h0, fun c C f e1 e2 => ?_⟩
        obtain ⟨D2, g1, g2, g3⟩ := h1 c C f e1 e2
        obtain ⟨fd2, hf2, hb2⟩ := F.fd f D2 g1
        exact ⟨_, fd2, D2.ps, g3, ⟨g2, hb2, by rw [← g2]; exact fn_ok F n f D2 fd2 g1 hf2⟩⟩ }
    have hss := sss_trSs (k := ⟨call P.pg n, callM P.pg n, none⟩) (fun st => trS_good 30 _ _ FS ⟨fun _ => L2.passes_of (K := fun e s'' => L2N.CX Pr w outer H s E e s'') (E₁ := fun e' s'' => L2N.CX Pr w outer H s E e' s'') rfl, rfl, rfl⟩ st) D.d.body
    refine ⟨_, hss (fun cls d _ H => E cls d H) (L2N.takes_of rfl rfl rfl rfl), al, startE D.N.length ws, h, ⟨hs, esim_start rl, trivial⟩, ?_⟩
    show PostS _ G none _ al H _ (run P.T (P.body D) ⟨call P.pg n, callM P.pg n, none⟩ (startE D.N.length ws) h)
    cases e : run P.T (P.body D) ⟨call P.pg n, callM P.pg n, none⟩ (startE D.N.length ws) h with
    | nx ρ' h' => rw [e] at q; exact fun al' H' σ' x a => q al' H' .non x a.hs .non
    | rt u h' => rw [e] at q; exact fun al' H' v x s r => q al' H' v x s r
    | ex c fs ρ' h' => rw [e] at q; exact fun al' H' σ' cls d x s _ r => q al' H' cls d x s r
    | bad => rw [e] at q; exact q
end
end Py

namespace Py
open PySem (Addr Value Obj Expr Pos Stmt Scope Str NameKind)
mutual
def repB (K : Frag) : W → Value → Bool
  | .non, .none => true
  | .bl b, .bool c => b == c
  | .int i, .int j _ => decide (i = j)
  | .str s, .str t _ => decide (S s = t)
  | .tup ws, .ref a => match K.lookup a with
    | some ⟨.type "tuple", _, .seq its _, _⟩ => decide (its.size ≤ LIM) && repBs K ws its.toList
    | _ => false
  | _, _ => false
def repBs (K : Frag) : List W → List Value → Bool
  | [], [] => true
  | w :: ws, v :: vs => repB K w v && repBs K ws vs
  | _, _ => false
end
mutual
theorem repB_ok {K : Frag} : ∀ {w : W} {u : Value}, repB K w u = true → ∃ v, L2.RelV v u ∧ ∀ H al, Rep K H al v w
  | .non, u, h => by
    cases u <;> simp [repB] at h
    exact ⟨.non, rfl, fun _ _ => .non⟩
  | .bl b, u, h => by
    cases u <;> simp [repB] at h
    subst h
    exact ⟨.bl _, rfl, fun _ _ => .bl _⟩
  | .int i, u, h => by
    cases u <;> simp [repB] at h
    subst h
    exact ⟨.int _, ⟨_, rfl⟩, fun _ _ => .int _⟩
  | .str s, u, h => by
    cases u <;> simp [repB] at h
    subst h
    exact ⟨.str _, ⟨_, rfl⟩, fun _ _ => .str _⟩
  | .tup ws, u, h => by
    cases u <;> simp only [repB] at h <;> try (cases h; done)
    rename_i a
    split at h
    · rename_i od its n sl e
      obtain ⟨h1, h2⟩ := Bool.and_eq_true_iff.mp h
      obtain ⟨vs, r, q⟩ := repBs_ok h2
      refine ⟨.ref a, rfl, fun H al => .tup (.inr ⟨_, its, n, e, rfl, rfl, ?_, r⟩) (q H al)⟩
      rw [← lim_eq]; simpa using h1
    · cases h
  | .lst _, u, h => by cases u <;> simp [repB] at h
  | .ref _, u, h => by cases u <;> simp [repB] at h
  | .scr _, u, h => by cases u <;> simp [repB] at h
theorem repBs_ok {K : Frag} : ∀ {ws : List W} {us : List Value}, repBs K ws us = true → ∃ vs, L2.Vals vs us ∧ ∀ H al, RepL K H al vs ws
  | [], [], h => ⟨[], .nil, fun _ _ => .nil⟩
  | [], _ :: _, h => by simp [repBs] at h
  | _ :: _, [], h => by simp [repBs] at h
  | w :: ws, u :: us, h => by
    simp only [repBs] at h
    obtain ⟨h1, h2⟩ := Bool.and_eq_true_iff.mp h
    obtain ⟨v, r1, q1⟩ := repB_ok h1
    obtain ⟨vs, r2, q2⟩ := repBs_ok h2
    exact ⟨v :: vs, .cons r1 r2, fun H al => .cons (q1 H al) (q2 H al)⟩
end
def conB (K : Frag) (x : Str) (w : W) : Bool := match PySem.W.nsIn K PySem.mainGlobals x with
  | some (some u) => repB K w u
  | _ => false
theorem ns_none {K : Frag} {P : PySem.Params} {a : Addr} {ks : List Str} (h : He.dicW K a = some (He.keysIn P ks)) {x : Str} (hx : x ∉ ks) : PySem.W.nsIn K a x = some none := by
  unfold He.dicW at h
  unfold PySem.W.nsIn
  split at h
  · rename_i c es n sl ho
    split at h
    · rw [ho]
      simp only
      have key : ∀ e ∈ es.toList, ∃ k t, e.key = .str k t ∧ k ∈ ks := fun e he => by
        have h1 : es.toList.map He.keyOf = He.keysIn P ks := Option.some.inj h
        have h2 : He.keyOf e ∈ He.keysIn P ks := by rw [← h1]; exact List.mem_map_of_mem he
        obtain ⟨k, hk, e2⟩ := List.mem_map.mp h2
        unfold He.keyOf at e2
        split at e2
        · rename_i y t q
          have := Option.some.inj e2
          have := (Prod.mk.inj this).1
          exact ⟨y, t, q, by rw [← this]; exact hk⟩
        · cases e2
      have f1 : es.toList.find? (·.key.isStr x) = none := List.find?_eq_none.mpr fun e he hq => by
        obtain ⟨k, t, e1, e2⟩ := key e he
        rw [e1] at hq
        have : k = x := eq_of_beq hq
        exact hx (this ▸ e2)
      have f2 : es.toList.any (·.refKey) = false := List.any_eq_false.mpr fun e he hq => by
        obtain ⟨k, t, e1, e2⟩ := key e he
        unfold PySem.DictEntry.refKey at hq
        rw [e1] at hq
        cases hq
      rw [f1]
      simp only [f2, Bool.false_eq_true, if_false]
    · cases h
  · cases h
def dicB (K : Frag) (a : Addr) (kvs : List (String × W)) : Bool := kvs.all fun q => match PySem.W.nsIn K a (S q.1) with
  | some (some u) => repB K q.2 u
  | _ => false
theorem sGet_mem {s : String} {u : W} : ∀ {kvs : List (String × W)}, sGet s kvs = some u → (s, u) ∈ kvs
  | [], h => by simp [sGet] at h
  | (q, w) :: r, h => by
    unfold sGet at h
    split at h
    · rename_i e; cases h; rw [e]; exact List.mem_cons_self
    · exact List.mem_cons_of_mem _ (sGet_mem h)
theorem sGet_none {s : String} : ∀ {kvs : List (String × W)}, sGet s kvs = none → s ∉ kvs.map (·.1)
  | [], h => by simp
  | (q, w) :: r, h => by
    unfold sGet at h
    split at h
    · cases h
    · rename_i e
      rw [List.map_cons, List.mem_cons, not_or]
      exact ⟨fun z => e z.symm, sGet_none h⟩
theorem dic_of {K : Frag} {w : PySem.World} {a : Addr} {kvs : List (String × W)} (h : He.dicW K a = some (He.keysIn w.params (kvs.map fun q => S q.1))) (hb : dicB K a kvs = true) : DicF K w a kvs := by
  refine ⟨He.dicW_ok h, fun s => ?_⟩
  cases e : sGet s kvs with
  | some u =>
    have hm := List.all_eq_true.mp hb _ (sGet_mem e)
    simp only at hm
    split at hm
    · rename_i x ex
      obtain ⟨v, r, q⟩ := repB_ok hm
      exact ⟨v, x, ex, r, q⟩
    · cases hm
  | none =>
    refine ns_none h fun hm => sGet_none e ?_
    obtain ⟨q, hq, e2⟩ := List.mem_map.mp hm
    exact List.mem_map.mpr ⟨q, hq, S_inj e2⟩
def asZ (g : Addr → Option Obj) (n : List Addr) : List Addr := n
def obsZ (n : List Addr) (fa : List He.Fa) (fn : List He.DefD) (ts : List He.Tab) (ex : Frag → Bool) (g : Addr → Option Obj) : He.AlX := (He.obsT fa fn ts (He.frT g (asZ g n)), ex (He.frT g (asZ g n)))
/-- what the Hook tells -/
structure SaysZ (fa : List He.Fa) (fn : List He.DefD) (ts : List He.Tab) (ex : Frag → Bool) (w : PySem.World) (K : Frag) : Prop where
  t : He.SaysT fa fn ts w K
  more : ex K = true
def hookZ (n : List Addr) (fa : List He.Fa) (fn : List He.DefD) (ts : List He.Tab) (ex : Frag → Bool) : PySem.W.Hook where
  α := He.AlX
  obs := fun s => obsZ n fa fn ts ex s.heap.get?
  val := fun w => He.valX fn ts w
  says := fun w h => ∃ K : Frag, K.In h ∧ SaysZ fa fn ts ex w K
  of := fun _ _ e => ⟨_, He.frT_in, ⟨congrArg (fun z : He.AlX => z.1) e, congrArg (fun z : He.AlX => z.2) e⟩⟩
  keeps := fun _ _ _ ⟨K, hK, c⟩ k => ⟨K, PySem.W.Frag.In.keeps hK k, c⟩
theorem obsZ_eq {n : List Addr} {fa : List He.Fa} {fn : List He.DefD} {ts : List He.Tab} {ex : Frag → Bool} {g : Addr → Option Obj} {s : PySem.Shared} (h : ∀ a, g a = s.heap.get? a) : obsZ n fa fn ts ex g = (hookZ n fa fn ts ex).obs s := by
  have e : g = s.heap.get? := funext h
  rw [e] <;> rfl
inductive Fal {α : Type} (Q : α → Prop) : List α → Prop
  | nil : Fal Q []
  | cons {a : α} {as : List α} : Q a → Fal Q as → Fal Q (a :: as)
theorem Fal.mem {α : Type} {Q : α → Prop} : ∀ {as : List α}, Fal Q as → ∀ {a : α}, a ∈ as → Q a
  | _, .nil, _, h => by simp at h
  | _, .cons q t, a, h => by
    rcases List.mem_cons.mp h with rfl | h
    · exact q
    · exact t.mem h
/-- how a def's plain arguments bind -/
def Bnd (D : DF) : Prop := ∀ (kV doc pm : Value) (an : Option Addr) (cdv ct : Value) (us : List Value), us.length = D.ps.length → PySem.bindArgs (PySem.W.fnOf D.d.name D.d.qual D.d.params D.d.body D.d.scope .none kV doc pm an cdv ct) ⟨us, []⟩ = pure (D.ps.zip us)
/-- a class of instances: its name, its fields, the def that makes it, its methods' defs -/
structure CD where
  name : Str
  flds : List Nat
  init : Option Nat
  mths : List (Nat × Nat)
/-- an own class of exceptions over ValueError: without an __init__ of its own, or not served; the classes that it is under (itself too) -/
structure XD where
  name : Str
  bare : Bool
  sups : List Nat
  ini : Option (List Str × Str × List (Str × Str)) := none
structure PR where
  ids : List Nat := []
  dfs : List DF
  tab : List (Str × Gk)
  fns : List Str := []
  mts : List (Str × Nat) := []
  cls : List CD := []
  xcs : List XD := []
  file : Str := ""
def PR.df (R : PR) (f : Nat) : Option DF := (R.ids.zip R.dfs).lookup f
theorem lookup_memD {f : Nat} {D : DF} : ∀ {l : List (Nat × DF)}, l.lookup f = some D → (f, D) ∈ l
  | (y, u) :: r, h => by
    rw [List.lookup_cons] at h
    cases q : f == y with
    | true => rw [q] at h; cases h; rw [eq_of_beq q]; exact List.mem_cons_self
    | false => rw [q] at h; exact List.mem_cons_of_mem _ (lookup_memD h)
theorem df_mem {R : PR} {f : Nat} {D : DF} (h : R.df f = some D) : D ∈ R.dfs := (List.of_mem_zip (lookup_memD h)).2
/-- the fields of an exception by their numbers, and the arguments that they hold -/
def excL (fns ps : List Str) : List (Str × Str) → Option (List (Nat × Nat))
  | [] => some []
  | (f, y) :: r => match ixOf f fns, ixOf y ps.tail, excL fns ps r with
    | some a, some b, some l => some ((a, b) :: l)
    | _, _, _ => none
def XD.exf (fns : List Str) (X : XD) : Option (Nat × List (Nat × Nat)) := if X.bare = true then some (0, []) else match X.ini with
  | some (ps, _, fs) => (match excL fns ps fs.reverse with
    | some l => if l.isEmpty = false ∧ ps.length ≤ 1000 then some (ps.length - 1, l) else none
    | none => none)
  | none => none
def PR.T (R : PR) : Tb where
  meth := fun mi c => (R.cls[c]?).bind fun C => C.mths.lookup mi
  flds := fun c => match R.cls[c]? with
    | some C => C.flds
    | none => []
  init := fun c => (R.cls[c]?).bind (·.init)
  sub := fun c' c => match R.xcs[c']? with
    | some X => X.sups.contains c
    | none => false
  exf := fun c => (R.xcs[c]?).bind (XD.exf R.fns)
/-- no class at all -/
abbrev noT : Tb := (⟨[], [], [], [], [], [], [], ""⟩ : PR).T
def mtOf (x : Str) (m : Nat) : Nat → List (Str × Nat) → Option Nat
  | _, [] => none
  | i, (y, k) :: r => if y = x ∧ k = m then some i else mtOf x m (i + 1) r
def PR.pd (R : PR) : PD := ⟨R.df, R.T, fun x => (R.tab.lookup x).getD .unk, fun x => ixOf x R.fns, fun x m => mtOf x m 0 R.mts⟩
/-- no field's name is made of zeros -/
def okF (fns : List Str) : Bool := decide fns.Nodup && fns.all fun s => decide (s.cps[0]? ≠ some 0)
def fnmOf (fns : List Str) (i : Nat) : Str := if okF fns = true then (match fns[i]? with
  | some s => s
  | none => ⟨Array.replicate (i + 1) 0⟩) else ⟨Array.replicate (i + 1) 0⟩
theorem rep_inj {i j : Nat} (h : (⟨Array.replicate (i + 1) 0⟩ : Str) = ⟨Array.replicate (j + 1) 0⟩) : i = j := by
  have h1 : (Array.replicate (i + 1) 0).size = (Array.replicate (j + 1) 0).size := by injection h with h; rw [h]
  simpa using h1
theorem fnmOf_inj (fns : List Str) (i j : Nat) (h : fnmOf fns i = fnmOf fns j) : i = j := by
  unfold fnmOf at h
  split at h
  · rename_i ok
    obtain ⟨nd, z⟩ := Bool.and_eq_true_iff.mp ok
    have nd : fns.Nodup := of_decide_eq_true nd
    have hz : ∀ (k l : Nat) (s : Str), fns[k]? = some s → s ≠ ⟨Array.replicate (l + 1) 0⟩ := fun k l s e q => by
      have := of_decide_eq_true (List.all_eq_true.mp z s (List.mem_of_getElem? e))
      rw [q] at this
      exact this (by simp)
    split at h
    · rename_i s e1
      split at h
      · rename_i s2 e2
        subst h
        obtain ⟨h1, g1⟩ := List.getElem?_eq_some_iff.mp e1
        obtain ⟨h2, g2⟩ := List.getElem?_eq_some_iff.mp e2
        exact (List.getElem_inj nd).mp (g1.trans g2.symm)
      · exact absurd h (hz _ _ _ e1)
    · split at h
      · rename_i s2 e2
        exact absurd h.symm (hz _ _ _ e2)
      · exact rep_inj h
  · exact rep_inj h
def PR.G (R : PR) (K : Frag) : Gt where
  cls := fun c => (R.cls[c]?).map fun C => He.ga K C.name
  xcl := fun c => (R.xcs[c]?).map fun C => He.ga K C.name
  fnm := fnmOf R.fns
  fok := fun c f => (R.T.flds c).contains f
  inj := fnmOf_inj R.fns
def scopeB (D : DF) : Bool := (match D.d.scope.kind with | .function => true | _ => false) && (!D.d.scope.isCoroutine && (!D.d.scope.isGenerator && (decide D.N.Nodup && (decide (D.N.take D.ps.length = D.ps) &&
  (D.ps.all (fun x => match D.d.scope.names.lookup x with | some .local => true | some .cell => true | _ => false) && (D.d.scope.names.all (fun y => match y.2 with | .free => false | _ => true) && (D.d.dfl.isEmpty && D.d.kwd.isEmpty)))))))
def tabB (R : PR) : Bool := R.tab.all fun q => match q.2 with
  | .df f m => (match R.df f with
    | some D => decide (D.ps.length = m) && decide (D.d.at_ = (q.1, none))
    | none => false)
  | .cl c f m => (match R.df f, R.cls[c]? with
    | some D, some C => decide (D.ps.length = m) && (decide (D.d.at_ = (C.name, some ("__init__" : Str))) && (decide (C.name = q.1) && decide (C.init = some f)))
    | _, _ => false)
  | .xc c b => (match R.xcs[c]? with
    | some X => decide (X.name = q.1) && X.bare == b
    | none => false)
  | _ => true
def clsB (R : PR) : Bool := okF R.fns && ((R.cls.all fun C => C.mths.all fun q => (match R.mts[q.1]?, R.df q.2 with
    | some (nm, m), some D => decide (D.ps.length = m) && (decide (D.d.at_ = (C.name, some nm)) && decide (nm ∉ C.flds.map (fnmOf R.fns)))
    | _, _ => false)))
/-- what is checked without the state -/
def PR.ok (R : PR) : Bool := R.dfs.all scopeB && (tabB R && clsB R)
/-- what is asked of the state -/
def PR.faC (R : PR) : CD → List He.Fa := fun C => .cls C.name :: (C.flds.map (fun f => .noat C.name (fnmOf R.fns f)) ++ ((match C.init with | some _ => [.mkr C.name] | none => []) ++ C.mths.map fun q => .meth C.name ((R.mts[q.1]?).getD ("", 0)).1))
def tabFa (q : Str × Gk) : Option He.Fa := match q.2 with
  | .df _ _ => some (.glo q.1)
  | .cl _ _ _ => some (.glo q.1)
  | .xc _ _ => some (.glo q.1)
  | .dic _ => some (.glo q.1)
  | .free => some (.free q.1)
  | _ => none
def PR.fa (R : PR) : List He.Fa := R.tab.filterMap tabFa ++ ((R.cls.map R.faC).flatten ++ (R.xcs.map fun X => (if X.bare then [.exc X.name] else []) ++ (List.range R.xcs.length).filterMap fun c => (R.xcs[c]?).map fun Y => .exm X.name Y.name (X.sups.contains c)).flatten)
def PR.fn (R : PR) : List He.DefD := R.dfs.map (·.d)
def kitB (K : Frag) (C : Addr) (t : Ty) : Bool := decide (PySem.W.kitOne K (.ref C) (.type (tyN t)) = some false)
def caB (K : Frag) (C : Addr) : Bool := He.eqO (PySem.W.findIn K (.ref C) "__class__") (some (some (.builtin "object.__class__"))) && (He.eqO (PySem.W.specialIn K (.builtin "object.__class__") "__get__") (some (some (.builtin "getset_descriptor.__get__"))) &&
  (decide (PySem.W.takesIn K (.builtin "object.__class__") = some true) && decide (PySem.W.mroIn K C (.type "object") = some true)))
def excCB (K : Frag) (D : Addr) : Bool := He.eqO (PySem.W.findIn K (.ref D) "__getattribute__") (some (some (.builtin "BaseException.__getattribute__"))) && (He.eqO (PySem.W.findIn K (.ref D) "__getattr__") (some none) && (decide (PySem.W.subIn K (.ref D) (.type "BaseException") = some true) && (PySem.W.hasDictIn K D && caB K D)))
theorem excCB_ok {K : Frag} {D : Addr} (h : excCB K D = true) : L2.ExcC K D := by
  obtain ⟨q1, h⟩ := Bool.and_eq_true_iff.mp h
  obtain ⟨q2, h⟩ := Bool.and_eq_true_iff.mp h
  obtain ⟨q3, h⟩ := Bool.and_eq_true_iff.mp h
  obtain ⟨q4, h⟩ := Bool.and_eq_true_iff.mp h
  obtain ⟨q5, h⟩ := Bool.and_eq_true_iff.mp h
  obtain ⟨q6, h⟩ := Bool.and_eq_true_iff.mp h
  obtain ⟨q7, q8⟩ := Bool.and_eq_true_iff.mp h
  exact ⟨He.eqO_ok q1, He.eqO_ok q2, of_decide_eq_true q3, q4, He.eqO_ok q5, He.eqO_ok q6, of_decide_eq_true q7, of_decide_eq_true q8⟩
def exxB (R : PR) (K : Frag) : Bool := R.xcs.all fun X => excCB K (He.ga K X.name) && (List.range R.xcs.length).all fun c => match R.xcs[c]? with
  | some Y => decide (PySem.W.kitOne K (.ref (He.ga K X.name)) (.ref (He.ga K Y.name)) = some (X.sups.contains c))
  | none => true
/-- the tables that the Hook looks at: the written dicts -/
def dicT (q : Str × Gk) : Option He.Tab := match q.2 with
  | .dic kvs => some (fun K => He.ga K q.1, kvs.map fun r => S r.1)
  | _ => none
def PR.ts (R : PR) : List He.Tab := R.tab.filterMap dicT
def iniXB (R : PR) (K : Frag) (X : XD) : Bool := X.bare || match X.ini with
  | some (ps, sa, fs) => PyX.iniB K R.file (He.ga K X.name) ps sa fs
  | none => true
def PR.ex (R : PR) (K : Frag) : Bool := (exxB R K && R.xcs.all (iniXB R K)) && ((R.tab.all fun q => match q.2 with
  | .con w => conB K q.1 w
  | .dic kvs => dicB K (He.ga K q.1) kvs
  | _ => true) && R.cls.all fun C => caB K (He.ga K C.name) && [Ty.int, .str, .bool, .tuple, .list, .dict].all fun t => kitB K (He.ga K C.name) t)
theorem scope_ok {D : DF} (h : scopeB D = true) : L2.FnScope D.N D.ps D.d.scope ∧ D.d.dfl = [] ∧ D.d.kwd = [] := by
  unfold scopeB at h
  simp only [Bool.and_eq_true] at h
  obtain ⟨h1, h2, h3, h4, h5, h6, h7, h8, h9⟩ := h
  refine ⟨⟨?_, by simpa using h2, by simpa using h3, by simpa using h4, by simpa using h5, fun x hx => ?_, fun y hy e => ?_⟩, List.isEmpty_iff.mp h8, List.isEmpty_iff.mp h9⟩
  · split at h1
    · assumption
    · cases h1
  · have := List.all_eq_true.mp h6 x hx

    split at this
    · rename_i e; exact .inl e
    · rename_i e; exact .inr e
    · cases this
  · have := List.all_eq_true.mp h7 y hy
    simp only [e] at this
    cases this
theorem lookup_memS {x : Str} {g : Gk} : ∀ {l : List (Str × Gk)}, l.lookup x = some g → (x, g) ∈ l
  | (y, u) :: r, h => by
    rw [List.lookup_cons] at h
    cases q : x == y with
    | true => rw [q] at h; cases h; rw [eq_of_beq q]; exact List.mem_cons_self
    | false => rw [q] at h; exact List.mem_cons_of_mem _ (lookup_memS h)
theorem gk_mem {R : PR} {x : Str} {g : Gk} (h : R.pd.gk x = g) (hg : g ≠ .unk) : (x, g) ∈ R.tab := by
  unfold PR.pd at h
  simp only at h
  cases e : R.tab.lookup x with
  | none => rw [e] at h; exact absurd h.symm hg
  | some u =>
    rw [e] at h
    have h : u = g := h
    rw [h] at e
    exact lookup_memS e
theorem fa_tab {R : PR} {x : Str} {g : Gk} {f : He.Fa} (hm : (x, g) ∈ R.tab) (hf : tabFa (x, g) = some f) : f ∈ R.fa := List.mem_append_left _ (List.mem_filterMap.mpr ⟨_, hm, hf⟩)
theorem fa_cls {R : PR} {c : Nat} {C : CD} {f : He.Fa} (hC : R.cls[c]? = some C) (hf : f ∈ R.faC C) : f ∈ R.fa :=
  List.mem_append_right _ (List.mem_append_left _ (List.mem_flatten.mpr ⟨_, List.mem_map.mpr ⟨C, List.mem_of_getElem? hC, rfl⟩, hf⟩))
theorem fa_exc {R : PR} {c : Nat} {X : XD} (hX : R.xcs[c]? = some X) (hb : X.bare = true) : He.Fa.exc X.name ∈ R.fa :=
  List.mem_append_right _ (List.mem_append_right _ (List.mem_flatten.mpr ⟨_, List.mem_map.mpr ⟨X, List.mem_of_getElem? hX, rfl⟩, List.mem_append_left _ (by rw [if_pos hb]; exact List.mem_singleton.mpr rfl)⟩))
theorem fa_exm {R : PR} {c' c : Nat} {X Y : XD} (hX : R.xcs[c']? = some X) (hY : R.xcs[c]? = some Y) : He.Fa.exm X.name Y.name (X.sups.contains c) ∈ R.fa :=
  List.mem_append_right _ (List.mem_append_right _ (List.mem_flatten.mpr ⟨_, List.mem_map.mpr ⟨X, List.mem_of_getElem? hX, rfl⟩, List.mem_append_right _ (List.mem_filterMap.mpr ⟨c, List.mem_range.mpr (List.getElem?_eq_some_iff.mp hY).1, by rw [hY]; rfl⟩)⟩))
theorem mtOf_get {x : Str} {m : Nat} : ∀ {l : List (Str × Nat)} {i mi : Nat}, mtOf x m i l = some mi → ∃ j, mi = i + j ∧ l[j]? = some (x, m)
  | [], _, _, h => by simp [mtOf] at h
  | (y, m0) :: r, i, mi, h => by
    unfold mtOf at h
    split at h
    · rename_i e
      cases h
      exact ⟨0, rfl, by simp [e.1, e.2]⟩
    · obtain ⟨j, e1, e2⟩ := mtOf_get h
      exact ⟨j + 1, by omega, by simpa using e2⟩
theorem lookup_memN {x g : Nat} : ∀ {l : List (Nat × Nat)}, l.lookup x = some g → (x, g) ∈ l
  | (y, u) :: r, h => by
    rw [List.lookup_cons] at h
    cases q : x == y with
    | true => rw [q] at h; cases h; rw [eq_of_beq q]; exact List.mem_cons_self
    | false => rw [q] at h; exact List.mem_cons_of_mem _ (lookup_memN h)
theorem excL_rel {R : PR} {K : Frag} (h3a : okF R.fns = true) {ps : List Str} : ∀ {fs : List (Str × Str)} {l : List (Nat × Nat)}, excL R.fns ps fs = some l → Fa2 (fun (q : Str × Str) (r : Nat × Nat) => q.1 = (R.G K).fnm r.1 ∧ ps[r.2 + 1]? = some q.2) fs l
  | [], l, h => by cases h; exact .nil
  | (f, y) :: r, l, h => by
    unfold excL at h
    split at h
    · rename_i a b l2 e1 e2 e3
      cases h
      refine .cons ⟨?_, ?_⟩ (excL_rel h3a e3)
      · show f = fnmOf R.fns a
        unfold fnmOf
        rw [if_pos h3a, ixOf_get e1]
      · have := ixOf_get e2
        cases ps with
        | nil => simp at this
        | cons p ps => simpa using this
    · cases h
theorem excL_mem {fns ps : List Str} {f : Nat} : ∀ {fs : List (Str × Str)} {l : List (Nat × Nat)}, excL fns ps fs = some l → f ∈ l.map (·.1) → ∃ q ∈ fs, ixOf q.1 fns = some f
  | [], l, h, hm => by cases h; simp at hm
  | (g, y) :: r, l, h, hm => by
    unfold excL at h
    split at h
    · rename_i a b l2 e1 e2 e3
      cases h
      rw [List.map_cons, List.mem_cons] at hm
      rcases hm with rfl | hm
      · exact ⟨_, List.mem_cons_self, e1⟩
      · obtain ⟨q, hq, e⟩ := excL_mem e3 hm
        exact ⟨q, List.mem_cons_of_mem _ hq, e⟩
    · cases h
/-- what the state tells is what the defs ask -/
theorem kf_of {R : PR} {K : Frag} {mg : Str → Option Value} {h : PySem.Heap} (hok : R.ok = true) (hb : Fal Bnd R.dfs) (X : K.In h) (Gn : h.Ns PySem.mainGlobals mg) (c : He.SaysD R.fa R.fn K) (hex : R.ex K = true) {Pr : PySem.Program} {w : PySem.World} (hP : PyX.progB Pr R.file = true) (hT : ∀ t ∈ R.ts, He.dicW K (t.1 K) = some (He.keysIn w.params t.2)) : KF R.pd K mg (R.G K) Pr w := by
  obtain ⟨h1, h23⟩ := Bool.and_eq_true_iff.mp hok
  obtain ⟨h2, h3⟩ := Bool.and_eq_true_iff.mp h23
  obtain ⟨h3a, h3c⟩ := Bool.and_eq_true_iff.mp h3
  obtain ⟨hexx, hex⟩ := Bool.and_eq_true_iff.mp hex
  obtain ⟨hexx, hini⟩ := Bool.and_eq_true_iff.mp hexx
  obtain ⟨hex, hexc⟩ := Bool.and_eq_true_iff.mp hex
  have hs : ∀ (f : Nat) (D : DF), R.df f = some D → L2.FnScope D.N D.ps D.d.scope ∧ D.d.dfl = [] ∧ D.d.kwd = [] := fun f D hD => scope_ok (List.all_eq_true.mp h1 D (df_mem hD))
  have hfd : ∀ (f : Nat) (D : DF), R.df f = some D → ∃ fd, L2.FunD K D.d.name D.d.qual D.d.params D.d.body D.d.scope [] [] (He.fAd K D.d.at_) fd := fun f D hD => by
    obtain ⟨fd, hF⟩ := c.defs (d := D.d) (List.mem_map_of_mem (df_mem hD))
    refine ⟨fd, ?_⟩
    have e1 : D.d.dvs K = [] := by unfold He.DefD.dvs; rw [(hs f D hD).2.1]; rfl
    have e2 : D.d.kws K = [] := by unfold He.DefD.kws; rw [(hs f D hD).2.2]; rfl
    rw [e1, e2] at hF
    exact hF
  have hfn : ∀ s f, R.pd.fno s = some f → s = (R.G K).fnm f := fun s f e => by
    have e1 := ixOf_get (show ixOf s R.fns = some f from e)
    show s = fnmOf R.fns f
    unfold fnmOf
    rw [if_pos h3a, e1]
  have hcl : ∀ c C, (R.G K).cls c = some C → ∃ D : CD, R.cls[c]? = some D ∧ C = He.ga K D.name := fun c C e => by
    obtain ⟨D, e1, e2⟩ := Option.map_eq_some_iff.mp (show (R.cls[c]?).map _ = some C from e)
    exact ⟨D, e1, e2.symm⟩
  have hxc : ∀ (c : Nat) (D : CD), R.cls[c]? = some D → caB K (He.ga K D.name) = true ∧ ∀ t, kitB K (He.ga K D.name) t = true := fun c D e => by
    obtain ⟨q1, q2⟩ := Bool.and_eq_true_iff.mp (List.all_eq_true.mp hexc D (List.mem_of_getElem? e))
    exact ⟨q1, fun t => List.all_eq_true.mp q2 t (by cases t <;> simp)⟩
  refine ⟨fun f D hD => ?_, fun f D hD => (hs f D hD).1, ⟨fun c' C e => ?_, fun c' f hf => hf, fun c' C f e hf => ?_, fun c' C e => ?_, fun c' C t e => ?_⟩, fun x f m hx => ?_, fun x c' f m hx => ?_, fun x w hx => ?_, fun x kvs hx => ?_, fun x c' hx => ?_, fun s f c' C hs hC hf => ?_, fun x hx => ?_, fun x c' b hx => ?_, fun x c' b C hx hmg c2 C2 e2 => ?_, hfn, fun s mi m hm => ⟨fun c' g f eg ef e => ?_, fun c' C f e1 e2 => ?_⟩⟩
  · obtain ⟨fd, hF⟩ := hfd f D hD
    exact ⟨fd, hF, hF.bindsN fun kV doc pm an cdv ct us hl => (hb.mem (df_mem hD)) kV doc pm an cdv ct us hl⟩
  · obtain ⟨D, e1, rfl⟩ := hcl c' C e
    exact He.cls_ok (c.facts (f := .cls D.name) (fa_cls e1 List.mem_cons_self))
  · obtain ⟨D, e1, rfl⟩ := hcl c' C e
    have hf2 : f ∈ D.flds := by
      have : f ∈ (match R.cls[c']? with | some C => C.flds | none => []) := hf
      rw [e1] at this; exact this
    exact He.noat_ok (c.facts (f := .noat D.name (fnmOf R.fns f)) (fa_cls e1 (List.mem_cons_of_mem _ (List.mem_append_left _ (List.mem_map.mpr ⟨f, hf2, rfl⟩)))))
  · obtain ⟨D, e1, rfl⟩ := hcl c' C e
    obtain ⟨q1, q2⟩ := Bool.and_eq_true_iff.mp (hxc c' D e1).1
    obtain ⟨q2, q3⟩ := Bool.and_eq_true_iff.mp q2
    obtain ⟨q3, q4⟩ := Bool.and_eq_true_iff.mp q3
    exact ⟨He.eqO_ok q1, He.eqO_ok q2, of_decide_eq_true q3, of_decide_eq_true q4⟩
  · obtain ⟨D, e1, rfl⟩ := hcl c' C e
    exact of_decide_eq_true ((hxc c' D e1).2 t)
  · have hm := gk_mem hx (by simp)
    have hq := List.all_eq_true.mp h2 _ hm
    simp only at hq
    cases e : R.df f with
    | none => rw [e] at hq; cases hq
    | some D =>
      rw [e] at hq
      simp only [Bool.and_eq_true, decide_eq_true_eq] at hq
      refine ⟨D, e, hq.1, ?_⟩
      rw [hq.2]
      exact He.glo_ok X Gn (c.facts (f := .glo x) (fa_tab hm rfl))
  · have hm := gk_mem hx (by simp)
    have hq := List.all_eq_true.mp h2 _ hm
    simp only at hq
    cases e : R.df f with
    | none => rw [e] at hq; cases hq
    | some D =>
      cases e2 : R.cls[c']? with
      | none => rw [e, e2] at hq; cases hq
      | some C =>
        rw [e, e2] at hq
        simp only [Bool.and_eq_true, decide_eq_true_eq] at hq
        obtain ⟨q1, q2, q3, q4⟩ := hq
        refine ⟨He.ga K C.name, D, by show (R.cls[c']?).map _ = _; rw [e2]; rfl, e, ?_, q1, by show (R.cls[c']?).bind _ = _; rw [e2]; exact q4, ?_⟩
        · rw [q2]
          refine He.mkr_ok (c.facts (f := .mkr C.name) (fa_cls e2 (List.mem_cons_of_mem _ (List.mem_append_right _ (List.mem_append_left _ ?_)))))
          rw [q4]; exact List.mem_cons_self
        · rw [q3]
          exact He.glo_ok X Gn (c.facts (f := .glo x) (fa_tab hm rfl))
  · have hm := gk_mem hx (by simp)
    have hq := List.all_eq_true.mp hex _ hm
    simp only [conB] at hq
    split at hq
    · rename_i u e
      obtain ⟨v, r, q⟩ := repB_ok hq
      exact ⟨v, u, PySem.W.mg_of X Gn e, r, q⟩
    · cases hq
  · have hm := gk_mem hx (by simp)
    have hq := List.all_eq_true.mp hex _ hm
    simp only at hq
    exact ⟨He.ga K x, He.glo_ok X Gn (c.facts (f := .glo x) (fa_tab hm rfl)), dic_of (hT (fun K => He.ga K x, kvs.map fun r => S r.1) (List.mem_filterMap.mpr ⟨_, hm, rfl⟩)) hq⟩
  · have hm := gk_mem hx (by simp)
    have hq := List.all_eq_true.mp h2 _ hm
    simp only at hq
    cases e : R.xcs[c']? with
    | none => rw [e] at hq; cases hq
    | some Y =>
      rw [e] at hq
      simp only [Bool.and_eq_true, decide_eq_true_eq, beq_iff_eq] at hq
      obtain ⟨q1, q2⟩ := hq
      have eT : R.pd.T.exf c' = XD.exf R.fns Y := by show (R.xcs[c']?).bind _ = _; rw [e]; rfl
      rw [eT]
      unfold XD.exf
      rw [q2]
      simp only [Bool.false_eq_true, if_false]
      split
      · rename_i ps sa fs hi
        split
        · rename_i l hl
          split
          · rename_i hh
            refine .inr ⟨He.ga K Y.name, ps.length - 1, l, fun X0 e1 e2 e3 => ?_, by omega⟩
            subst e1 e2 e3
            have hY := List.all_eq_true.mp hini Y (List.mem_of_getElem? e)
            unfold iniXB at hY
            rw [q2, hi] at hY
            have hl2 := excL_rel (K := X0.K) h3a hl
            have hne : l ≠ [] := fun z => by rw [z] at hh; simp at hh
            have hps : ps.length = (ps.length - 1) + 1 := by
              have : ps ≠ [] := fun z => by
                subst z
                cases hr : fs.reverse with
                | nil => rw [hr] at hl; cases hl; exact hne rfl
                | cons q r => rw [hr] at hl; obtain ⟨q1, q2⟩ := q; simp [excL, ixOf] at hl
              have := List.length_pos_iff.mpr this
              omega
            obtain ⟨g1, g2, _, _⟩ := ini_of (G := R.G X0.K) hP (by simpa using hY) hps hl2
            refine ⟨by show (R.xcs[c']?).map _ = _; rw [e]; rfl, ?_, ?_, hne, PySem.W.mg_none_of X Gn g2, g1⟩
            · rw [q1]; exact He.glo_ok X Gn (c.facts (f := .glo x) (fa_tab hm rfl))
            · rw [eT]
              unfold XD.exf
              rw [q2, hi]
              simp only [Bool.false_eq_true, if_false, hl]
              rw [if_pos hh]
          · exact .inl rfl
        · exact .inl rfl
      · exact .inl rfl
  · obtain ⟨Y, e, rfl⟩ := Option.map_eq_some_iff.mp (show (R.xcs[c']?).map _ = some C from hC)
    have eT : R.pd.T.exf c' = XD.exf R.fns Y := by show (R.xcs[c']?).bind _ = _; rw [e]; rfl
    unfold xfOk at hf
    rw [eT] at hf
    split at hf
    · rename_i m l hl
      unfold XD.exf at hl
      split at hl
      · cases hl; simp at hf
      · rename_i hb
        split at hl
        · rename_i ps sa fs hi
          split at hl
          · rename_i l2 hl2
            split at hl
            · rename_i hh
              cases hl
              have hY := List.all_eq_true.mp hini Y (List.mem_of_getElem? e)
              unfold iniXB at hY
              rw [hi] at hY
              have hb2 : Y.bare = false := by simpa using hb
              rw [hb2] at hY
              have hr := excL_rel (K := K) h3a hl2
              have hne : l ≠ [] := fun z => by rw [z] at hh; simp at hh
              have hps : ps.length = (ps.length - 1) + 1 := by
                have : ps ≠ [] := fun z => by
                  subst z
                  cases hr : fs.reverse with
                  | nil => rw [hr] at hl2; cases hl2; exact hne rfl
                  | cons q r => rw [hr] at hl2; obtain ⟨q1, q2⟩ := q; simp [excL, ixOf] at hl2
                have := List.length_pos_iff.mpr this
                omega
              obtain ⟨_, _, g3, g4⟩ := ini_of (G := R.G K) hP (by simpa using hY) hps hr
              refine ⟨g3, ?_⟩
              have hm2 : f ∈ l.map (·.1) := by simpa using hf
              obtain ⟨q, hq, e4⟩ := excL_mem hl2 hm2
              have e5 := ixOf_get (show ixOf s R.fns = some f from hs)
              have e6 := ixOf_get e4
              rw [e5] at e6
              have : s = q.1 := Option.some.inj e6
              rw [this]
              exact g4 q (List.mem_reverse.mp hq)
            · cases hl
          · cases hl
        · cases hl
    · cases hf
  · have hm := gk_mem hx (by simp)
    exact He.free_ok X Gn (c.facts (f := .free x) (fa_tab hm rfl))
  · have hm := gk_mem hx (by simp)
    have hq := List.all_eq_true.mp h2 _ hm
    simp only at hq
    cases e : R.xcs[c']? with
    | none => rw [e] at hq; cases hq
    | some Y =>
      rw [e] at hq
      simp only [Bool.and_eq_true, decide_eq_true_eq, beq_iff_eq] at hq
      obtain ⟨q1, q2⟩ := hq
      subst q2
      refine ⟨He.ga K Y.name, by rw [q1]; exact He.glo_ok X Gn (c.facts (f := .glo x) (fa_tab hm rfl)), fun hb2 => ?_, fun c2 C2 e2 => ?_⟩
      · obtain ⟨r1, r2, r3, r4⟩ := He.exc_ok (c.facts (fa_exc e hb2))
        refine ⟨by show (R.xcs[c']?).map _ = _; rw [e]; rfl, r1, r2, r3, r4, ?_⟩
        show (R.xcs[c']?).bind _ = _
        rw [e]
        show XD.exf R.fns Y = _
        unfold XD.exf
        rw [if_pos hb2]
      · obtain ⟨Z, e3, rfl⟩ := Option.map_eq_some_iff.mp (show (R.xcs[c2]?).map _ = some C2 from e2)
        have := He.exm_ok (c.facts (fa_exm e3 e))
        rw [this]
        show some _ = some (match R.xcs[c2]? with | some X => X.sups.contains c' | none => false)
        rw [e3]
  · have hm := gk_mem hx (by simp)
    have hq := List.all_eq_true.mp h2 _ hm
    simp only at hq
    cases e : R.xcs[c']? with
    | none => rw [e] at hq; cases hq
    | some Y =>
      rw [e] at hq
      simp only [Bool.and_eq_true, decide_eq_true_eq, beq_iff_eq] at hq
      obtain ⟨q1, q2⟩ := hq
      have hC : C = He.ga K Y.name := by
        have := He.glo_ok X Gn (c.facts (f := .glo x) (fa_tab hm rfl))
        rw [hmg] at this
        injection this with this
        injection this with this
        rw [q1]; exact this
      subst hC
      obtain ⟨Z, e3, rfl⟩ := Option.map_eq_some_iff.mp (show (R.xcs[c2]?).map _ = some C2 from e2)
      obtain ⟨r1, r2⟩ := Bool.and_eq_true_iff.mp (List.all_eq_true.mp hexx Z (List.mem_of_getElem? e3))
      refine ⟨excCB_ok r1, ?_⟩
      have r3 := List.all_eq_true.mp r2 c' (List.mem_range.mpr (List.getElem?_eq_some_iff.mp e).1)
      rw [e] at r3
      have r3 := of_decide_eq_true r3
      rw [r3]
      show some _ = some (match R.xcs[c2]? with | some X => X.sups.contains c' | none => false)
      rw [e3]
  · obtain ⟨j, _, e2⟩ := mtOf_get (show mtOf s m 0 R.mts = some mi from hm)
    have ej : mi = j := by omega
    subst ej
    have e4 : (R.cls[c']?).bind (fun C => C.mths.lookup mi) = some g := eg
    cases e5 : R.cls[c']? with
    | none => rw [e5] at e4; cases e4
    | some D =>
      rw [e5] at e4
      have hl := lookup_memN (show D.mths.lookup mi = some g from e4)
      have hq := List.all_eq_true.mp (List.all_eq_true.mp h3c D (List.mem_of_getElem? e5)) _ hl
      simp only at hq
      rw [e2] at hq
      cases e6 : R.df g with
      | none => rw [e6] at hq; cases hq
      | some D2 =>
        rw [e6] at hq
        simp only [Bool.and_eq_true, decide_eq_true_eq] at hq
        refine hq.2.2 (List.mem_map.mpr ⟨f, ?_, e⟩)
        have : (match R.cls[c']? with | some C => C.flds | none => []).contains f = true := ef
        rw [e5] at this
        simpa using this
  · obtain ⟨j, ej, e3⟩ := mtOf_get (show mtOf s m 0 R.mts = some mi from hm)
    have ej : mi = j := by omega
    subst ej
    obtain ⟨D, g1, rfl⟩ := hcl c' C e1
    have e4 : (R.cls[c']?).bind (fun C => C.mths.lookup mi) = some f := e2
    rw [g1] at e4
    have hl := lookup_memN (show D.mths.lookup mi = some f from e4)
    have hq := List.all_eq_true.mp (List.all_eq_true.mp h3c D (List.mem_of_getElem? g1)) _ hl
    simp only at hq
    rw [e3] at hq
    cases e5 : R.df f with
    | none => rw [e5] at hq; cases hq
    | some D2 =>
      rw [e5] at hq
      simp only [Bool.and_eq_true, decide_eq_true_eq] at hq
      refine ⟨D2, e5, hq.1, ?_⟩
      rw [hq.2.1]
      have := He.meth_ok (c.facts (f := .meth D.name s) (fa_cls g1 (List.mem_cons_of_mem _ (List.mem_append_right _ (List.mem_append_right _ (List.mem_map.mpr ⟨(mi, f), hl, by simp only; rw [e3]; rfl⟩))))))
      exact this
end Py

namespace Py
open PySem (Addr Value Obj Expr Pos Stmt Scope Str NameKind)

theorem law_sp {K : Frag} {G : Gt} {P : PD} {n f : Nat} (h : ∀ ns : List Int, ns.length ≤ 63 → ∃ h', call P.pg n f [.scr ns] [] = .ok (.bl true) h') {H : Hp} {a : Addr} {ns : List Int} (hl : ns.length ≤ 63) (hO : L2.Only H) (hS : L2.SqL K H a (ns.map L2.V.int)) :
    spF K G (call P.pg n f) 1 [.ref a] H (fun v _ => v = .bl true) fun _ _ _ => False := by
  refine ⟨rfl, ⟨[], []⟩, [], [.scr ns], ⟨rfl, List.nodup_nil, fun a ha => by simp at ha, fun n a o e => by
    have : (([] : List Addr)[n]?) = some a := e
    simp at this⟩, .cons (.scr ?_) .nil, ?_⟩
  · rcases hS with hS | hS
    · refine .inl ⟨hS, fun z => by rcases z with z | z <;> simp at z, ?_⟩
      rcases hO a with e | ⟨o, xs, e⟩
      · rcases hS with q | ⟨o, q⟩ <;> (rw [e] at q; cases q)
      · exact ⟨o, _, e⟩
    · exact .inr hS
  · obtain ⟨h', e⟩ := h ns hl
    rw [e]
    exact fun al' H' v _ _ r => by cases r; rfl
/-- the def `law`, as walk_ofE takes it -/
theorem law_fn {R : PR} {K : Frag} {mg : Str → Option Value} {h : PySem.Heap} {f n : Nat} {D : DF} {x : Str} {Pr : PySem.Program} {w : PySem.World} {fa : Addr} (hok : R.ok = true) (hb : Fal Bnd R.dfs) (X : K.In h) (Gn : h.Ns PySem.mainGlobals mg) (c : He.SaysD R.fa R.fn K) (hex : R.ex K = true) (hP : PyX.progB Pr R.file = true) (hT : ∀ t ∈ R.ts, He.dicW K (t.1 K) = some (He.keysIn w.params t.2))
    (hD : R.df f = some D) (hps : D.ps = [x]) (hglo : R.pd.gk "law" = .df f 1) (hm : mg "law" = some (.ref fa)) (hlaw : ∀ ns : List Int, ns.length ≤ 63 → ∃ h', call R.pd.pg n f [.scr ns] [] = .ok (.bl true) h') :
    ∃ (fd : PySem.FuncData) (sp : L2.Sp), (∀ (s : PySem.Shared) (u : Value), PySem.BindsTo s fd ⟨[u], []⟩ [(x, u)]) ∧
      (∀ (H : Hp) (a : Addr) (ns : List Int), ns.length ≤ 63 → L2.Only H → L2.SqL K H a (ns.map L2.V.int) → sp [.ref a] H (fun v _ => v = .bl true) fun _ _ _ => False) ∧
      ∀ base : PySem.Heap, K.In base → base.Ns PySem.mainGlobals mg → L2.FnOk Pr w K mg base (L2N.CX Pr w) (n + 2) fa fd [x] sp := by
  have F := kf_of (Pr := Pr) (w := w) hok hb X Gn c hex hP hT
  have hs := scope_ok (List.all_eq_true.mp (Bool.and_eq_true_iff.mp hok).1 D (df_mem hD))
  obtain ⟨fd, hF⟩ := c.defs (d := D.d) (List.mem_map_of_mem (df_mem hD))
  have e1 : D.d.dvs K = [] := by unfold He.DefD.dvs; rw [hs.2.1]; rfl
  have e2 : D.d.kws K = [] := by unfold He.DefD.kws; rw [hs.2.2]; rfl
  rw [e1, e2] at hF
  have hfa : He.fAd K D.d.at_ = fa := by
    obtain ⟨D2, h1, _, h3⟩ := F.gdef "law" f 1 hglo
    have h1 : R.df f = some D2 := h1
    rw [hD] at h1
    injection h1 with h1
    subst h1
    rw [hm] at h3
    injection h3 with h3
    injection h3 with h3
    exact h3.symm
  refine ⟨fd, spF K (R.G K) (call R.pd.pg n f) 1, fun s u => ?_, fun H a ns hl hO hS => law_sp hlaw hl hO hS, fun base _ _ => ?_⟩
  · have := hF.bindsA (ps := D.ps) (fun kV doc pm an cdv ct us hl => (hb.mem (df_mem hD)) kV doc pm an cdv ct us hl) s [u] (by rw [hps]; rfl)
    rw [hps] at this
    exact this
  · have := fn_ok (w := w) (Pr := Pr) (base := base) F n f D fd hD hF
    rw [hfa, hps] at this
    exact this
open PySem PySem.Spec PyProof.Rows L2 in
/-- a law's end, whatever its defs raise within -/
theorem walk_w {l : PySem.W.OpenLaw} {n k : Nat} {q : Program} {loose : List Str} {XP : (Str → Option Value) → PySem.Heap → Prop} {YP : World → PySem.Heap → Prop} {d : DefRec} {CX : World → CXT} {x : Str}
    (hn : l.most = some n) (hn2 : n ≤ sizeLine) (hdf : d.params.defaults = []) (hr : Room k callerA)
    (F : ∀ (w : World) (mg : Str → Option Value) (fa : Addr) (h : PySem.Heap), YP w h → h.Ns mainGlobals mg → mg d.name = some (.ref fa) →
      ∃ (K : PySem.W.Frag) (fd : FuncData) (sp : Sp), K.In h ∧ (∀ (s : Shared) (u : Value), BindsTo s fd ⟨[u], []⟩ [(x, u)]) ∧
        (∀ (H : L2.Hp) (a : Addr) (ns : List Int), ns.length ≤ n → Only H → SqL K H a (ns.map V.int) → sp [.ref a] H (fun v _ => v = .bl true) fun _ _ _ => False) ∧
        ∀ base : PySem.Heap, K.In base → base.Ns mainGlobals mg → FnOk l.prog w K mg base (CX w) k fa fd [x] sp)
    (hCX : ∀ (w : World) (H : L2.Hp) (s : Shared) (e : Value) (s' : Shared), CX w [] H s (fun _ _ _ => False) e s' → False) :
    PySem.W.WalkO q loose XP YP l.row.toRowW d [] (fun f vs => PySem.call f vs) := by
  refine Att.attach_call hn hdf fun w s₀ s₁ mg mb fa o pm cd doc a vs ns G Y ho hd hcd hmg hobj hints hlen hg => ?_
  obtain ⟨K, fd, sp, KX, hb, hsp, hF⟩ := F w mg fa _ Y G.T.g hmg
  exact law_call KX G.T.g G.T.b G.T.builtins G.T.nolimit hg hobj hints (Nat.le_trans hlen hn2) hr hF hb (fun H hO hS => hsp H a ns hlen hO hS) fun H e s' => hCX w H s₁ e s'
theorem cx_no {P : PySem.Program} {w : PySem.World} {H : L2.Hp} {s : PySem.Shared} {e : Value} {s' : PySem.Shared} (h : L2N.CX P w [] H s (fun _ _ _ => False) e s') : False := by
  obtain ⟨_, _, _, _, _, _, _, _, _, _, _, _, z⟩ := h
  exact z
open PySem PySem.Spec PyProof.Rows L2 in
theorem room_of {k : Nat} (h : k ≤ 200) : L2.Room k callerA := by
  have r : L2.Room 200 callerA := ⟨rfl, by decide, by decide⟩
  exact r.mono h
end Py
theorem He.tab_all {fa : List He.Fa} {fn : List He.DefD} {ts : List He.Tab} {w : PySem.World} {K : PySem.W.Frag} (c : He.SaysT fa fn ts w K) : ∀ t ∈ ts, He.dicW K (t.1 K) = some (He.keysIn w.params t.2) :=
  List.map_inj_left.mp (congrArg (fun z : He.AlT => z.2) c)
section
open PySem PySem.W HandSHeadRun
/-- what the state behind the top tells, of some facts -/
def RunP (r : OpenRow) (n : List Addr) (M : Nat) (fa : List He.Fa) (fn : List He.DefD) (ts : List He.Tab) (ex : Py.Frag → Bool) (w : World) : Prop :=
  ∀ os : OsState, (endF (stepQ (denQ tabQ) r.prog w) M r.prog w os).map (fun s => Py.obsZ n fa fn ts ex (getT s)) = some (He.valX fn ts w)
/-- .. of the state itself -/
def RunS (r : OpenRow) (q : Program) (M : Nat) (loose : List Str) (w : World) : Prop :=
  ∀ os : OsState, (endF (stepQ (denQ tabQ) r.prog w) M r.prog w os).map (fun s => (looksF r.prog (boot_heap w.params) s.abs, seenQ q loose (importedModules r.prog.main.body) (fun s => xlAt q [] s && recOk r.toRowW.records s) s.abs)) = some (true, openGood q loose)
theorem RunP.app {r : OpenRow} {n : List Addr} {M : Nat} {fa fb : List He.Fa} {fn fm : List He.DefD} {ts tu : List He.Tab} {ex ey : Py.Frag → Bool} {w : World} (a : RunP r n M fa fn ts ex w) (b : RunP r n M fb fm tu ey w) :
    RunP r n M (fa ++ fb) (fn ++ fm) (ts ++ tu) (fun K => ex K && ey K) w := fun os => by
  have h1 := a os
  have h2 := b os
  cases e : endF (stepQ (denQ tabQ) r.prog w) M r.prog w os with
  | none => rw [e] at h1; cases h1
  | some s =>
    rw [e] at h1 h2
    have h1 := Option.some.inj h1
    have h2 := Option.some.inj h2
    have g1 : ((fa.all fun f => f.ok (He.frT (getT s) (Py.asZ (getT s) n))) && (fn.all fun d => d.ok (He.frT (getT s) (Py.asZ (getT s) n)))) = true := congrArg (fun z : He.AlX => z.1.1.1) h1
    have g2 : ((fb.all fun f => f.ok (He.frT (getT s) (Py.asZ (getT s) n))) && (fm.all fun d => d.ok (He.frT (getT s) (Py.asZ (getT s) n)))) = true := congrArg (fun z : He.AlX => z.1.1.1) h2
    have k1 : fn.map (fun d => He.fnW (He.frT (getT s) (Py.asZ (getT s) n)) d.at_) = fn.map He.DefD.val := congrArg (fun z : He.AlX => z.1.1.2) h1
    have k2 : fm.map (fun d => He.fnW (He.frT (getT s) (Py.asZ (getT s) n)) d.at_) = fm.map He.DefD.val := congrArg (fun z : He.AlX => z.1.1.2) h2
    have t1 : ts.map (fun t => He.dicW (He.frT (getT s) (Py.asZ (getT s) n)) (t.1 (He.frT (getT s) (Py.asZ (getT s) n)))) = ts.map (fun t => some (He.keysIn w.params t.2)) := congrArg (fun z : He.AlX => z.1.2) h1
    have t2 : tu.map (fun t => He.dicW (He.frT (getT s) (Py.asZ (getT s) n)) (t.1 (He.frT (getT s) (Py.asZ (getT s) n)))) = tu.map (fun t => some (He.keysIn w.params t.2)) := congrArg (fun z : He.AlX => z.1.2) h2
    have x1 : ex (He.frT (getT s) (Py.asZ (getT s) n)) = true := congrArg (fun z : He.AlX => z.2) h1
    have x2 : ey (He.frT (getT s) (Py.asZ (getT s) n)) = true := congrArg (fun z : He.AlX => z.2) h2
    obtain ⟨g1a, g1b⟩ := Bool.and_eq_true_iff.mp g1
    obtain ⟨g2a, g2b⟩ := Bool.and_eq_true_iff.mp g2
    show some _ = some _
    congr 1
    show (((((fa ++ fb).all _ && (fn ++ fm).all _), (fn ++ fm).map _), (ts ++ tu).map _), (ex (He.frT (getT s) (Py.asZ (getT s) n)) && ey (He.frT (getT s) (Py.asZ (getT s) n)))) = (((true, (fn ++ fm).map _), (ts ++ tu).map _), true)
    rw [List.all_append, List.all_append, List.map_append, List.map_append, List.map_append, List.map_append, g1a, g1b, g2a, g2b, k1, k2, t1, t2, x1, x2]
    rfl
theorem RunP.cast {r : OpenRow} {n : List Addr} {M : Nat} {fa fb : List He.Fa} {fn fm : List He.DefD} {ts tu : List He.Tab} {ex ey : Py.Frag → Bool} {w : World} (a : RunP r n M fa fn ts ex w) (e1 : fa = fb) (e2 : fn = fm) (e3 : ts = tu) (e4 : ∀ K, ex K = true → ey K = true) : RunP r n M fb fm tu ey w := fun os => by
  subst e1 e2 e3
  have h1 := a os
  cases e : endF (stepQ (denQ tabQ) r.prog w) M r.prog w os with
  | none => rw [e] at h1; cases h1
  | some s =>
    rw [e] at h1
    have h1 := Option.some.inj h1
    have k1 : He.obsT fa fn ts (He.frT (getT s) (Py.asZ (getT s) n)) = He.valT fn ts w := congrArg (fun z : He.AlX => z.1) h1
    have x1 : ex (He.frT (getT s) (Py.asZ (getT s) n)) = true := congrArg (fun z : He.AlX => z.2) h1
    show some (_, _) = some (_, _)
    rw [k1, e4 _ x1]
theorem RunP.both {r : OpenRow} {n : List Addr} {M : Nat} {fa : List He.Fa} {fn : List He.DefD} {ts : List He.Tab} {ex : Py.Frag → Bool} {w : World} (row : String) (a : RunP r n M fa fn ts ex (w.withFollow row false)) (b : RunP r n M fa fn ts ex (w.withFollow row true)) : RunP r n M fa fn ts ex w := by
  have e := World.withFollow_self w row
  cases h : w.params.followText row with
  | false => rw [h] at e; rw [← e]; exact a
  | true => rw [h] at e; rw [← e]; exact b
theorem RunS.both {r : OpenRow} {q : Program} {M : Nat} {loose : List Str} {w : World} (row : String) (a : RunS r q M loose (w.withFollow row false)) (b : RunS r q M loose (w.withFollow row true)) : RunS r q M loose w := by
  have e := World.withFollow_self w row
  cases h : w.params.followText row with
  | false => rw [h] at e; rw [← e]; exact a
  | true => rw [h] at e; rw [← e]; exact b
theorem runEq_of {r : OpenRow} {q : Program} {n : List Addr} {M : Nat} {loose : List Str} {fa : List He.Fa} {fn : List He.DefD} {ts : List He.Tab} {ex : Py.Frag → Bool} {w : World} (a : RunS r q M loose w) (b : RunP r n M fa fn ts ex w) :
    RunEq r q (Py.hookZ n fa fn ts ex) (fun s => Py.obsZ n fa fn ts ex (getT s)) M loose w := fun os => by
  have h1 := a os
  have h2 := b os
  cases e : endF (stepQ (denQ tabQ) r.prog w) M r.prog w os with
  | none => rw [e] at h1; cases h1
  | some s =>
    rw [e] at h1 h2
    have h1 := Option.some.inj h1
    have h2 := Option.some.inj h2
    obtain ⟨g1, g2⟩ := Prod.mk.inj h1
    show some (_, _, _) = some (_, _, _)
    rw [g1, g2]
    exact congrArg (fun z => some (true, openGood q loose, z)) h2
end

namespace Py
def bTaken : Py.St := (.seq (.ife (.cmp .gt (.ix (.var 0) (.cst (.int 3))) (.cst (.int 0))) (.seq (.asg (.nm 2) (.bin .mod (.bi .int (.cons (.ix (.var 0) (.cst (.int 3))) .nil)) (.var 1)))
  (.seq (.asg (.sub (.var 0) (.cst (.int 3))) (.bin .fdiv (.ix (.var 0) (.cst (.int 3))) (.var 1)))
  (.seq (.ret (.var 2))
  .skip))) .skip)
  (.seq (.asg (.sub (.var 0) (.cst (.int 1))) (.bin .add (.ix (.var 0) (.cst (.int 1))) (.cst (.int 1))))
  (.seq (.ife (.cmp .gt (.ix (.var 0) (.cst (.int 1))) (.bi .len (.cons (.ix (.var 0) (.cst (.int 0))) .nil))) (.seq (.asg (.sub (.var 0) (.cst (.int 2))) (.bin .mod (.bi .int (.cons (.bin .add (.bin .mul (.ix (.var 0) (.cst (.int 2))) (.cst (.int 48271))) (.cst (.int 11))) .nil)) (.cst (.int 2147483647))))
  (.seq (.ret (.bin .mod (.bi .int (.cons (.bin .fdiv (.ix (.var 0) (.cst (.int 2))) (.cst (.int 7))) .nil)) (.var 1)))
  .skip)) .skip)
  (.seq (.asg (.nm 3) (.ix (.ix (.var 0) (.cst (.int 0))) (.bin .sub (.ix (.var 0) (.cst (.int 1))) (.cst (.int 1)))))
  (.seq (.asg (.sub (.var 0) (.cst (.int 2))) (.bin .mod (.bi .int (.cons (.bin .add (.bin .add (.bin .mul (.ix (.var 0) (.cst (.int 2))) (.cst (.int 48271))) (.var 3)) (.cst (.int 11))) .nil)) (.cst (.int 2147483647))))
  (.seq (.ife (.cmp .ge (.var 3) (.bin .pow (.cst (.int 10)) (.cst (.int 18)))) (.seq (.asg (.sub (.var 0) (.cst (.int 3))) (.bin .fdiv (.var 3) (.var 1)))
  .skip) .skip)
  (.seq (.ret (.bin .mod (.bi .int (.cons (.var 3) .nil)) (.var 1)))
  .skip)))))))
/-- the row that the numbers are drawn from -/
def rowW (ns : List Int) (i st rest : Int) : MO := .lst [.scr ns, .int i, .int st, .int rest]
theorem setAt_get {h : MH} {r : Nat} {o x : MO} (hr : h[r]? = some o) : (setAt h r x)[r]? = some x := by
  unfold setAt
  exact List.getElem?_set_self (List.getElem?_eq_some_iff.mp hr).1
theorem setAt_set {h : MH} {r : Nat} {x y : MO} : setAt (setAt h r x) r y = setAt h r y := by
  unfold setAt; exact List.set_set _
theorem setAt_same {h : MH} {r : Nat} {o : MO} (hr : h[r]? = some o) : setAt h r o = h := by
  unfold setAt
  refine List.ext_getElem? fun j => ?_
  by_cases e : r = j
  · subst e; rw [List.getElem?_set_self (List.getElem?_eq_some_iff.mp hr).1, hr]
  · rw [List.getElem?_set_ne e]
section
variable {T : Tb} {X : Cxt} {ρ : Env} {h : MH}
theorem ev_rowIx {r : Nat} {a b c d : W} (hρ : ρ[0]? = some (some (.ref r))) (hr : h[r]? = some (.lst [a, b, c, d])) :
    ev T X (.ix (.var 0) (.cst (.int 0))) ρ h = .ok a h ∧ ev T X (.ix (.var 0) (.cst (.int 1))) ρ h = .ok b h ∧ ev T X (.ix (.var 0) (.cst (.int 2))) ρ h = .ok c h ∧ ev T X (.ix (.var 0) (.cst (.int 3))) ρ h = .ok d h := by
  refine ⟨?_, ?_, ?_, ?_⟩ <;> simp [ev, hρ, wIx, deref, hr, atI, ixN]
end
theorem taken_ok {P : Pg} {f : Nat} (hf : P.fn f = some (2, 4, bTaken)) (n : Nat) {h : MH} {r : Nat} {ns : List Int} {i st rest m : Int} (hr : h[r]? = some (rowW ns i st rest)) (h0 : 0 ≤ i) (hm : 0 < m) (hm2 : m < 1073741824) :
    ∃ v i' st' rest', 0 ≤ v ∧ v < m ∧ 0 ≤ i' ∧ call P (n + 1) f [.ref r, .int m] h = .ok (.int v) (setAt h r (rowW ns i' st' rest')) := by
  rw [call_succ]
  simp only [bodyC, hf]
  simp only [List.length_cons, List.length_nil, if_true, startE, List.map_cons, List.map_nil, List.replicate, List.append]
  by_cases hrest : 0 < rest
  · refine ⟨rest % m, i, st, rest / m, Int.emod_nonneg _ (Int.ne_of_gt hm), Int.emod_lt_of_pos _ hm, h0, ?_⟩
    simp [bTaken, run, stm, evT, ev, evs, asn, sto, wCmp, wIx, wBin, wBi, deref, truth, hr, rowW, atI, ixN, hrest, hm, hm2, Out.res, Cxt.calm, setAt_get hr, setAt_set]
  · by_cases hlen : (ns.length : Int) < i + 1
    · refine ⟨((st * 48271 + 11) % 2147483647 / 7) % m, i + 1, (st * 48271 + 11) % 2147483647, rest, Int.emod_nonneg _ (Int.ne_of_gt hm), Int.emod_lt_of_pos _ hm, by omega, ?_⟩
      simp [bTaken, run, stm, evT, ev, evs, asn, sto, wCmp, wIx, wBin, wBi, deref, truth, hr, rowW, atI, ixN, hrest, hm, hm2, Out.res, Cxt.calm, setAt_get hr, setAt_set, hlen]
    · obtain ⟨c, hc⟩ : ∃ c, ns[i.toNat]? = some c := ⟨ns[i.toNat]'(by omega), by simp⟩
      have hi : i < (ns.length : Int) := by omega
      have hi2 : i.toNat < ns.length := by omega
      have e : ns[i.toNat]'hi2 = c := by rw [List.getElem?_eq_getElem hi2] at hc; exact Option.some.inj hc
      by_cases hbig : (1000000000000000000 : Int) ≤ c
      · refine ⟨c % m, i + 1, (st * 48271 + c + 11) % 2147483647, c / m, Int.emod_nonneg _ (Int.ne_of_gt hm), Int.emod_lt_of_pos _ hm, by omega, ?_⟩
        simp [bTaken, run, stm, evT, ev, evs, asn, sto, wCmp, wIx, wBin, wBi, deref, truth, hr, rowW, atI, ixN, hrest, hm, hm2, Out.res, Cxt.calm, setAt_get hr, setAt_set, hlen, h0, hi, hi2, e, hbig]
      · refine ⟨c % m, i + 1, (st * 48271 + c + 11) % 2147483647, rest, Int.emod_nonneg _ (Int.ne_of_gt hm), Int.emod_lt_of_pos _ hm, by omega, ?_⟩
        simp [bTaken, run, stm, evT, ev, evs, asn, sto, wCmp, wIx, wBin, wBi, deref, truth, hr, rowW, atI, ixN, hrest, hm, hm2, Out.res, Cxt.calm, setAt_get hr, setAt_set, hlen, h0, hi, hi2, e, hbig]
end Py

namespace Py
/-- the row stands -/
def Row (ns : List Int) (r : Nat) (h : MH) : Prop := ∃ i st rest, 0 ≤ i ∧ h[r]? = some (rowW ns i st rest)
/-- the row is drawn from -/
def Up (ns : List Int) (r : Nat) (h h' : MH) : Prop := ∃ i st rest, 0 ≤ i ∧ h' = setAt h r (rowW ns i st rest)
theorem Up.refl {ns : List Int} {r : Nat} {h : MH} (R : Row ns r h) : Up ns r h h := by
  obtain ⟨i, st, rest, h0, hr⟩ := R
  exact ⟨i, st, rest, h0, (setAt_same hr).symm⟩
theorem Up.row {ns : List Int} {r : Nat} {h h' : MH} (R : Row ns r h) (u : Up ns r h h') : Row ns r h' := by
  obtain ⟨i, st, rest, h0, hr⟩ := R
  obtain ⟨i', st', rest', h0', rfl⟩ := u
  exact ⟨i', st', rest', h0', setAt_get hr⟩
theorem Up.trans {ns : List Int} {r : Nat} {h h1 h2 : MH} (u : Up ns r h h1) (v : Up ns r h1 h2) : Up ns r h h2 := by
  obtain ⟨i, st, rest, h0, rfl⟩ := u
  obtain ⟨i', st', rest', h0', rfl⟩ := v
  exact ⟨i', st', rest', h0', setAt_set⟩
theorem taken_up {P : Pg} {f : Nat} (hf : P.fn f = some (2, 4, bTaken)) (n : Nat) {h : MH} {r : Nat} {ns : List Int} {m : Int} (R : Row ns r h) (hm : 0 < m) (hm2 : m < 1073741824) :
    ∃ v h', 0 ≤ v ∧ v < m ∧ Up ns r h h' ∧ call P (n + 1) f [.ref r, .int m] h = .ok (.int v) h' := by
  obtain ⟨i, st, rest, h0, hr⟩ := R
  obtain ⟨v, i', st', rest', a, b, c, d⟩ := taken_ok hf n hr h0 hm hm2
  exact ⟨v, _, a, b, ⟨i', st', rest', c, rfl⟩, d⟩
def bPick (t : Nat) : Py.St := (.seq (.ret (.ix (.var 1) (.call t (.cons (.var 0) (.cons (.bi .len (.cons (.var 1) .nil)) .nil)))))
  .skip)
theorem atI_nat {α : Type} {xs : List α} {v : Int} (h0 : 0 ≤ v) (h1 : v < xs.length) : ∃ x, xs[v.toNat]? = some x ∧ atI xs v = some x := by
  have h2 : v.toNat < xs.length := by omega
  refine ⟨xs[v.toNat], by simp [h2], ?_⟩
  simp [atI, ixN, h0, h1, h2]
theorem pick_up {P : Pg} {f t : Nat} (hf : P.fn f = some (2, 2, bPick t)) (ht : P.fn t = some (2, 4, bTaken)) (n : Nat) {h : MH} {r : Nat} {ns : List Int} {xs : List W} (R : Row ns r h) (h1 : 0 < xs.length) (h2 : xs.length < 1073741824) :
    ∃ x h', x ∈ xs ∧ Up ns r h h' ∧ call P (n + 2) f [.ref r, .lst xs] h = .ok x h' := by
  obtain ⟨v, h', a, b, u, e⟩ := taken_up ht n R (m := (xs.length : Int)) (by omega) (by omega)
  obtain ⟨x, g1, g2⟩ := atI_nat a b
  refine ⟨x, h', List.mem_of_getElem? g1, u, ?_⟩
  rw [call_succ]
  simp [bodyC, hf, startE, bPick, run, stm, ev, evs, Cxt.calm, wBi, deref, e, wIx, g2, Out.res]
theorem compL_none {f : W → MH → Res (Option W)} {h : MH} : ∀ {xs : List W} {acc : List W}, (∀ x ∈ xs, f x h = .ok none h) → compL f xs acc h = .ok (.lst acc) h
  | [], acc, _ => rfl
  | x :: xs, acc, hx => by
    simp only [compL, hx x List.mem_cons_self]
    exact compL_none fun y hy => hx y (List.mem_cons_of_mem _ hy)
/-- a pure filter -/
theorem compL_filter {f : W → MH → Res (Option W)} {h : MH} {g : W → Option W} : ∀ {xs : List W} {acc : List W}, (∀ x ∈ xs, f x h = .ok (g x) h) → acc.length + xs.length ≤ LIM → compL f xs acc h = .ok (.lst (acc ++ xs.filterMap g)) h
  | [], acc, _, _ => by simp [compL]
  | x :: xs, acc, hx, hl => by
    have ih := fun acc => compL_filter (f := f) (h := h) (g := g) (xs := xs) (acc := acc) fun y hy => hx y (List.mem_cons_of_mem _ hy)
    simp only [compL, hx x List.mem_cons_self, List.filterMap_cons]
    rw [List.length_cons] at hl
    cases e : g x with
    | none => simp only; exact ih acc (by omega)
    | some y =>
      simp only
      rw [if_pos (by omega), ih (acc ++ [y]) (by simp; omega)]
      simp
/-- a filter by draws -/
theorem compL_draw {f : W → MH → Res (Option W)} {ns : List Int} {r : Nat} : ∀ {xs : List W} {acc : List W} {h : MH}, Row ns r h → (∀ x ∈ xs, ∀ h, Row ns r h → ∃ h', Up ns r h h' ∧ (f x h = .ok none h' ∨ f x h = .ok (some x) h')) → acc.length + xs.length ≤ LIM →
    ∃ sub h', sub.Sublist xs ∧ Up ns r h h' ∧ compL f xs acc h = .ok (.lst (acc ++ sub)) h'
  | [], acc, h, R, _, _ => ⟨[], h, .slnil, .refl R, by simp [compL]⟩
  | x :: xs, acc, h, R, hx, hl => by
    rw [List.length_cons] at hl
    obtain ⟨h1, u1, e⟩ := hx x List.mem_cons_self h R
    have ih := fun acc => compL_draw (f := f) (ns := ns) (r := r) (xs := xs) (acc := acc) (u1.row R) fun y hy => hx y (List.mem_cons_of_mem _ hy)
    rcases e with e | e
    · obtain ⟨sub, h', s, u2, q⟩ := ih acc (by omega)
      exact ⟨sub, h', s.cons _, u1.trans u2, by simp only [compL, e]; exact q⟩
    · obtain ⟨sub, h', s, u2, q⟩ := ih (acc ++ [x]) (by simp; omega)
      refine ⟨x :: sub, h', s.cons₂ _, u1.trans u2, ?_⟩
      simp only [compL, e]
      rw [if_pos (by omega), q]
      simp
def bAlike (f : Nat) : Py.St := (.seq (.ife (.bi (.isa [.tuple, .list]) (.cons (.var 1) .nil)) (.seq (.ife (.or (.not (.bi (.isa [.tuple, .list]) (.cons (.var 0) .nil))) (.cmp .ne (.bi (.isa [.list]) (.cons (.var 0) .nil)) (.bi (.isa [.list]) (.cons (.var 1) .nil)))) (.seq (.ret (.cst (.bl false)))
  .skip) .skip)
  (.seq (.ife (.cmp .ne (.bi .len (.cons (.var 0) .nil)) (.bi .len (.cons (.var 1) .nil))) (.seq (.ret (.cst (.bl false)))
  .skip) .skip)
  (.seq (.ret (.cmp .eq (.comp 2 [2] (.rng1 (.bi .len (.cons (.var 1) .nil))) (.not (.call f (.cons (.ix (.var 0) (.var 2)) (.cons (.ix (.var 1) (.var 2)) .nil)))) (.var 2)) (.lst .nil)))
  .skip))) .skip)
  (.seq (.ife (.or (.isc (.var 1) .non) (.bi (.isa [.str]) (.cons (.var 1) .nil))) (.seq (.ret (.and (.cmp .eq (.var 0) (.var 1)) (.cmp .eq (.bi (.isa [.str]) (.cons (.var 0) .nil)) (.bi (.isa [.str]) (.cons (.var 1) .nil)))))
  .skip) .skip)
  (.seq (.ret (.and (.bi (.isa [.int]) (.cons (.var 0) .nil)) (.and (.cmp .eq (.bi (.isa [.bool]) (.cons (.var 0) .nil)) (.bi (.isa [.bool]) (.cons (.var 1) .nil))) (.cmp .eq (.var 0) (.var 1)))))
  .skip)))
mutual
/-- data whose lists are not long -/
def W.sml : W → Bool
  | .tup xs => decide (xs.length ≤ 100000) && smlAll xs
  | .lst xs => decide (xs.length ≤ 100000) && smlAll xs
  | .ref _ => false
  | .scr _ => false
  | _ => true
def smlAll : List W → Bool
  | [] => true
  | x :: xs => x.sml && smlAll xs
end
theorem smlAll_get : ∀ {xs : List W} {i : Nat} {x : W}, smlAll xs = true → xs[i]? = some x → x.sml = true
  | [], _, _, _, e => by simp at e
  | y :: xs, 0, x, h, e => by
    simp only [smlAll, Bool.and_eq_true] at h
    simp at e; subst e; exact h.1
  | y :: xs, i + 1, x, h, e => by
    simp only [smlAll, Bool.and_eq_true] at h
    exact smlAll_get h.2 (by simpa using e)
theorem depthAll_get : ∀ {xs : List W} {i : Nat} {x : W}, xs[i]? = some x → x.depth ≤ depthAll xs
  | [], _, _, e => by simp at e
  | y :: xs, 0, x, e => by
    simp at e; subst e
    simp only [depthAll]; exact Nat.le_max_left _ _
  | y :: xs, i + 1, x, e => by
    simp only [depthAll]
    exact Nat.le_trans (depthAll_get (xs := xs) (by simpa using e)) (Nat.le_max_right _ _)
theorem rngW_mem {n : Nat} {x : W} (h : x ∈ rngW 0 n) : ∃ i : Nat, i < n ∧ x = .int (i : Int) := by
  unfold rngW at h
  obtain ⟨i, hi, rfl⟩ := List.mem_map.mp h
  exact ⟨i, List.mem_range.mp hi, by simp⟩
theorem alike_seq {P : Pg} {f n : Nat} (hf : P.fn f = some (2, 3, bAlike f)) (ih : ∀ (w : W) (h : MH), w.sml = true → w.depth < n → call P n f [w, w] h = .ok (.bl true) h) {xs : List W} (h : MH) (h1 : xs.length ≤ 100000) (h2 : smlAll xs = true) (hd : depthAll xs < n) (i : Nat) (hi : i < xs.length) :
    ∃ x, atI xs (i : Int) = some x ∧ call P n f [x, x] h = .ok (.bl true) h := by
  obtain ⟨x, g1, g2⟩ := atI_nat (xs := xs) (v := (i : Int)) (by omega) (by omega)
  have g1 : xs[i]? = some x := by simpa using g1
  exact ⟨x, g2, ih x h (smlAll_get h2 g1) (Nat.lt_of_le_of_lt (depthAll_get g1) hd)⟩
set_option maxHeartbeats 4000000
section
variable {P : Pg} {f n : Nat} (hf : P.fn f = some (2, 3, bAlike f))
include hf
theorem alike_c (w : W) (h : MH) (b : Bool) (e : (run P.T (bAlike f) ⟨call P n, callM P n, none⟩ [some w, some w, none] h).res = .ok (.bl b) h) : call P (n + 1) f [w, w] h = .ok (.bl b) h := by
  rw [call_succ]
  simp only [bodyC, hf, startE, List.length_cons, List.length_nil, if_true, List.map_cons, List.map_nil]
  exact e
theorem alike_base (w : W) (h : MH) (hw : (match w with | .non => true | .bl _ => true | .int _ => true | .str _ => true | _ => false) = true) : call P (n + 1) f [w, w] h = .ok (.bl true) h := by
  refine alike_c hf w h true ?_
  cases w <;> simp only at hw <;> try (cases hw; done)
  · simp [bAlike, run, stm, evT, ev, evs, Cxt.calm, wBi, isTys, isTy, truth, wIs, wCmp, wEq, deref, W.pure, W.depth, W.eqv, Out.res]
  · simp [bAlike, run, stm, evT, ev, evs, Cxt.calm, wBi, isTys, isTy, truth, wIs, wCmp, wEq, deref, W.pure, W.depth, W.eqv, Out.res]
  · simp [bAlike, run, stm, evT, ev, evs, Cxt.calm, wBi, isTys, isTy, truth, wIs, wCmp, wEq, deref, W.pure, W.depth, W.eqv, Out.res]
  · simp [bAlike, run, stm, evT, ev, evs, Cxt.calm, wBi, isTys, isTy, truth, wIs, wCmp, wEq, deref, W.pure, W.depth, W.eqv, Out.res]
def aliC (f : Nat) : Ex := .comp 2 [2] (.rng1 (.bi .len (.cons (.var 1) .nil))) (.not (.call f (.cons (.ix (.var 0) (.var 2)) (.cons (.ix (.var 1) (.var 2)) .nil)))) (.var 2)
end
theorem p62 : ((2:Int)^62) = 4611686018427387904 := by decide +kernel
theorem clo_len {n : Nat} (h : n ≤ 100000) : isClo (n : Int) = true := by
  unfold isClo
  rw [p62]
  have h1 : -4611686018427387904 ≤ (n : Int) := by omega
  have h2 : (n : Int) < 4611686018427387904 := by omega
  exact decide_eq_true ⟨h1, h2⟩
def bindI (r : Res W) : Res (List W) := r.bind fun x h1 => match x with
    | .int j => if isClo j then .ok (rngW 0 j.toNat) h1 else .bad
    | _ => .bad
theorem bindI_ok {h : MH} {n : Nat} (hn : isClo (n : Int) = true) : bindI (.ok (.int n) h) = .ok (rngW 0 (n : Int).toNat) h := by
  unfold bindI
  rw [Res.bind_ok]
  exact if_pos hn
theorem evi_rng1 {T : Tb} {X : Cxt} {ρ : Env} {h : MH} {x : Ex} : evi T X (.rng1 x) ρ h = bindI (ev T X x ρ h) := by
  unfold evi
  rfl
theorem hit_len {T : Tb} {X : Cxt} {ρ : Env} {h : MH} {x : Ex} {n : Nat} (e : ev T X x ρ h = .ok (.int n) h) (hn : n ≤ 100000) : evi T X (.rng1 x) ρ h = .ok (rngW 0 n) h := by
  rw [evi_rng1, e, bindI_ok (clo_len hn), Int.toNat_natCast]
theorem ev_len {T : Tb} {X : Cxt} {ρ : Env} {h : MH} {a : W} {n : Nat} {i : Nat} (hX : X.calm = true) (ha : ρ[i]? = some (some a)) (hl : wBi .len [a] h = .ok (.int n) h) : ev T X (.bi .len (.cons (.var i) .nil)) ρ h = .ok (.int n) h := by
  simp only [ev, evs, hX, if_true, ha, Res.bind_ok, hl]
section
variable {P : Pg} {f n : Nat} (hf : P.fn f = some (2, 3, bAlike f))
theorem alike_run (a : W) (xs : List W) (h : MH) (ha : a = .tup xs ∨ a = .lst xs) (X : Cxt) (hX : X.xc = none) (hc : ev P.T X (aliC f) [some a, some a, none] h = .ok (.lst []) h) : (run P.T (bAlike f) X [some a, some a, none] h).res = .ok (.bl true) h := by
  have e : bAlike f = .seq (.ife (.bi (.isa [.tuple, .list]) (.cons (.var 1) .nil)) (.seq (.ife (.or (.not (.bi (.isa [.tuple, .list]) (.cons (.var 0) .nil))) (.cmp .ne (.bi (.isa [.list]) (.cons (.var 0) .nil)) (.bi (.isa [.list]) (.cons (.var 1) .nil)))) (.seq (.ret (.cst (.bl false))) .skip) .skip)
    (.seq (.ife (.cmp .ne (.bi .len (.cons (.var 0) .nil)) (.bi .len (.cons (.var 1) .nil))) (.seq (.ret (.cst (.bl false))) .skip) .skip)
    (.seq (.ret (.cmp .eq (aliC f) (.lst .nil))) .skip))) .skip)
    (.seq (.ife (.or (.isc (.var 1) .non) (.bi (.isa [.str]) (.cons (.var 1) .nil))) (.seq (.ret (.and (.cmp .eq (.var 0) (.var 1)) (.cmp .eq (.bi (.isa [.str]) (.cons (.var 0) .nil)) (.bi (.isa [.str]) (.cons (.var 1) .nil))))) .skip) .skip)
    (.seq (.ret (.and (.bi (.isa [.int]) (.cons (.var 0) .nil)) (.and (.cmp .eq (.bi (.isa [.bool]) (.cons (.var 0) .nil)) (.bi (.isa [.bool]) (.cons (.var 1) .nil))) (.cmp .eq (.var 0) (.var 1))))) .skip)) := rfl
  rw [e]
  generalize aliC f = cE at hc
  rcases ha with rfl | rfl <;>
  simp [run, stm, evT, ev, evs, Cxt.calm, hX, wBi, isTys, isTy, truth, wCmp, wEq, deref, W.pure, W.depth, W.eqv, Out.res, hc, pureAll, depthAll, eqvAll]
include hf
theorem alike_refl : ∀ (n : Nat) (w : W) (h : MH), w.sml = true → w.depth < n → call P n f [w, w] h = .ok (.bl true) h := by
  intro n
  induction n with
  | zero => exact fun w h _ hd => absurd hd (Nat.not_lt_zero _)
  | succ n ih =>
    intro w h hs hd
    have key : ∀ (a : W) (xs : List W), a = .tup xs ∨ a = .lst xs → xs.length ≤ 100000 → smlAll xs = true → depthAll xs < n → call P (n + 1) f [a, a] h = .ok (.bl true) h := by
      intro a xs ha h1 h2 h3
      refine alike_c hf a h true (alike_run a xs h ha _ rfl ?_)
      have hwx : ∀ k, wIx h a k = (match k with | .int v => atI xs v | _ => none) := by
        intro k; rcases ha with rfl | rfl <;> cases k <;> rfl
      have hlen : wBi .len [a] h = .ok (.int xs.length) h := by rcases ha with rfl | rfl <;> rfl
      have hit : evi P.T ⟨call P n, callM P n, none⟩ (.rng1 (.bi .len (.cons (.var 1) .nil))) [some a, some a, none] h = .ok (rngW 0 xs.length) h := hit_len (ev_len rfl rfl hlen) h1
      unfold aliC
      generalize hit' : (Ex.rng1 (.bi .len (.cons (.var 1) .nil))) = rE at hit
      simp only [ev, Cxt.calm, if_true, hit, Res.bind_ok]
      refine compL_none fun x hx => ?_
      obtain ⟨i, hi, rfl⟩ := rngW_mem hx
      obtain ⟨y, e1, e2⟩ := alike_seq hf ih h h1 h2 h3 i hi
      simp [ev, evs, wipe, Cxt.calm, hwx, e1, e2, truth]
    cases w with
    | non => exact alike_base hf _ h rfl
    | bl b => exact alike_base hf _ h rfl
    | int i => exact alike_base hf _ h rfl
    | str s => exact alike_base hf _ h rfl
    | tup xs =>
      simp only [W.sml, Bool.and_eq_true, decide_eq_true_eq] at hs
      exact key _ xs (.inl rfl) hs.1 hs.2 (by simp only [W.depth] at hd; omega)
    | lst xs =>
      simp only [W.sml, Bool.and_eq_true, decide_eq_true_eq] at hs
      exact key _ xs (.inr rfl) hs.1 hs.2 (by simp only [W.depth] at hd; omega)
    | ref r => simp [W.sml] at hs
    | scr ns => simp [W.sml] at hs
end
end Py

set_option maxHeartbeats 4000000
namespace Py
def words14 : List String := ["against", "along", "along checked", "args", "args checked", "blank", "calls", "cast", "cast checked", "keep", "none", "none checked", "put", "share"]
def bWords : Py.St := (.seq (.asg (.nm 0) (.lst (.cons (.cst (.str "against")) (.cons (.cst (.str "along")) (.cons (.cst (.str "along checked")) (.cons (.cst (.str "args")) (.cons (.cst (.str "args checked")) (.cons (.cst (.str "blank")) (.cons (.cst (.str "calls")) (.cons (.cst (.str "cast")) (.cons (.cst (.str "cast checked")) (.cons (.cst (.str "keep")) .nil))))))))))))
  (.seq (.ret (.bin .add (.var 0) (.lst (.cons (.cst (.str "none")) (.cons (.cst (.str "none checked")) (.cons (.cst (.str "put")) (.cons (.cst (.str "share")) .nil)))))))
  .skip))
theorem words_ok {P : Pg} {f : Nat} (hf : P.fn f = some (0, 1, bWords)) (n : Nat) (h : MH) : call P (n + 1) f [] h = .ok (.lst (words14.map .str)) h := by
  rw [call_succ]
  simp [bodyC, hf, startE, bWords, run, stm, ev, evs, asn, sto, wBin, deref, Out.res, LIM, words14]
def bDesign (fp fw ft : Nat) : Py.St := (.seq (.asg (.nm 1) (.call fp (.cons (.var 0) (.cons (.lst (.cons (.cst (.int 2)) (.cons (.cst (.int 2)) (.cons (.cst (.int 3)) .nil)))) .nil))))
  (.seq (.ret (.bi .tuple (.cons (.comp 2 [2] (.its (.call fw .nil)) (.cmp .eq (.call ft (.cons (.var 0) (.cons (.var 1) .nil))) (.cst (.int 0))) (.var 2)) .nil)))
  .skip))
theorem sub_strs {sub : List W} {l : List String} (h : sub.Sublist (l.map W.str)) : ∃ d : List String, d.Sublist l ∧ sub = d.map W.str := by
  obtain ⟨d, h1, h2⟩ := List.sublist_map_iff.mp h
  exact ⟨d, h1, h2⟩
theorem run_seq {T : Tb} {X : Cxt} {a b : Py.St} {ρ ρ1 : Env} {h h1 : MH} (e : run T a X ρ h = .nx ρ1 h1) : run T (.seq a b) X ρ h = run T b X ρ1 h1 := by simp only [run, e]
theorem run_asg {T : Tb} {X : Cxt} {i : Nat} {x : Ex} {ρ : Env} {h h1 : MH} {w : W} (hX : X.xc = none) (e : ev T X x ρ h = .ok w h1) : run T (.asg (.nm i) x) X ρ h = .nx (ρ.set i (some w)) h1 := by simp only [run, e, stm, asn, hX, sto]
theorem run_ret {T : Tb} {X : Cxt} {x : Ex} {s : Py.St} {ρ : Env} {h h1 : MH} {w : W} (e : ev T X x ρ h = .ok w h1) : run T (.seq (.ret x) s) X ρ h = .rt w h1 := by simp only [run, e, stm]
theorem design_up {P : Pg} {f fp fw ft : Nat} (hf : P.fn f = some (1, 3, bDesign fp fw ft)) (hp : P.fn fp = some (2, 2, bPick ft)) (hw : P.fn fw = some (0, 1, bWords)) (ht : P.fn ft = some (2, 4, bTaken)) (n : Nat) {h : MH} {r : Nat} {ns : List Int} (R : Row ns r h) :
    ∃ (d : List String) (h' : MH), d.Sublist words14 ∧ Up ns r h h' ∧ call P (n + 3) f [.ref r] h = .ok (.tup (d.map .str)) h' := by
  obtain ⟨x, h1, hx, u1, e1⟩ := pick_up hp ht n R (xs := [.int 2, .int 2, .int 3]) (by decide) (by decide)
  have hm : ∃ m : Int, x = .int m ∧ 0 < m ∧ m < 1073741824 := by
    simp only [List.mem_cons, List.not_mem_nil, or_false] at hx
    rcases hx with rfl | rfl | rfl
    · exact ⟨2, rfl, by decide, by decide⟩
    · exact ⟨2, rfl, by decide, by decide⟩
    · exact ⟨3, rfl, by decide, by decide⟩
  obtain ⟨m, rfl, m0, m1⟩ := hm
  have R1 := u1.row R
  obtain ⟨sub, h2, s, u2, e2⟩ := compL_draw (ns := ns) (r := r) (xs := words14.map .str) (acc := []) (h := h1)
    (f := fun x h2 => (ev P.T ⟨call P (n + 2), callM P (n + 2), none⟩ (.cmp .eq (.call ft (.cons (.var 0) (.cons (.var 1) .nil))) (.cst (.int 0))) ((wipe [some (.ref r), some (.int m), none] [2]).set 2 (some x)) h2).bind fun k h3 => (lift (truth h3 k) h3).bind fun b h4 =>
        if b then (ev P.T ⟨call P (n + 2), callM P (n + 2), none⟩ (.var 2) ((wipe [some (.ref r), some (.int m), none] [2]).set 2 (some x)) h4).bind fun y h5 => .ok (some y) h5 else .ok none h4) R1 (fun x hx h R => by
      obtain ⟨v, h', _, _, u, e⟩ := taken_up ht (n + 1) R m0 m1
      refine ⟨h', u, ?_⟩
      by_cases hv : v = 0
      · exact .inr (by simp [ev, evs, wipe, Cxt.calm, e, wCmp, wEq, deref, W.pure, W.depth, W.eqv, hv, truth])
      · exact .inl (by simp [ev, evs, wipe, Cxt.calm, e, wCmp, wEq, deref, W.pure, W.depth, W.eqv, hv, truth])) (by decide)
  obtain ⟨d, hd, rfl⟩ := sub_strs s
  refine ⟨d, h2, hd, u1.trans u2, ?_⟩
  rw [call_succ]
  simp only [bodyC, hf, startE, List.length_cons, List.length_nil, if_true, List.map_cons, List.map_nil]
  have a1 : ev P.T ⟨call P (n + 2), callM P (n + 2), none⟩ (.call fp (.cons (.var 0) (.cons (.lst (.cons (.cst (.int 2)) (.cons (.cst (.int 2)) (.cons (.cst (.int 3)) .nil)))) .nil))) [some (.ref r), none, none] h = .ok (.int m) h1 := by
    simp [ev, evs, Cxt.calm, e1, LIM]
  have a2 : evi P.T ⟨call P (n + 2), callM P (n + 2), none⟩ (.its (.call fw .nil)) [some (.ref r), some (.int m), none] h1 = .ok (words14.map .str) h1 := by
    simp [evi, ev, evs, Cxt.calm, words_ok hw (n + 1) h1]
  have a3 : ev P.T ⟨call P (n + 2), callM P (n + 2), none⟩ (.bi .tuple (.cons (.comp 2 [2] (.its (.call fw .nil)) (.cmp .eq (.call ft (.cons (.var 0) (.cons (.var 1) .nil))) (.cst (.int 0))) (.var 2)) .nil)) [some (.ref r), some (.int m), none] h1 = .ok (.tup (d.map .str)) h2 := by
    generalize Ex.its (.call fw .nil) = iE at a2
    simp only [ev, evs, Cxt.calm, if_true, a2, Res.bind_ok] at e2 ⊢
    rw [e2]
    simp [wBi, deref]
  show (run P.T (bDesign fp fw ft) _ [some (.ref r), none, none] h).res = _
  unfold bDesign
  rw [run_seq (run_asg rfl a1)]
  show (run P.T _ _ [some (.ref r), some (.int m), none] h1).res = _
  rw [run_ret a3]; rfl
theorem compL_strs {f : W → MH → Res (Option W)} {h : MH} {p : String → Bool} {l : List String} (hl : l.length ≤ LIM) (hx : ∀ w ∈ l, f (.str w) h = .ok (if p w then some (.str w) else none) h) : compL f (l.map .str) [] h = .ok (.lst ((l.filter p).map .str)) h := by
  rw [compL_filter (g := fun x => match x with | .str w => if p w then some (.str w) else none | _ => none) (fun x hx2 => ?_) (by simpa using hl)]
  · congr 2
    rw [List.nil_append, List.filterMap_map]
    clear hx hl
    induction l with
    | nil => rfl
    | cons w l ih =>
      rw [List.filterMap_cons, List.filter_cons]
      cases e : p w <;> simp [e, ih]
  · obtain ⟨w, hw, rfl⟩ := List.mem_map.mp hx2
    exact hx w hw
theorem pure_strs (d : List String) : pureAll (d.map .str) = true := by
  induction d with
  | nil => rfl
  | cons s d ih => simp [pureAll, W.pure, ih]
theorem depth_strs (d : List String) : depthAll (d.map .str) = 0 := by
  induction d with
  | nil => rfl
  | cons s d ih => simp [depthAll, W.depth, ih]
theorem any_strs (d : List String) (w : String) : ((d.map W.str).any fun y => y.eqv (.str w)) = d.contains w := by
  induction d with
  | nil => rfl
  | cons s d ih =>
    rw [List.map_cons, List.any_cons, ih, List.contains_cons]
    congr 1
    simp only [W.eqv]
    by_cases e : s = w
    · subst e; rfl
    · rw [beq_eq_false_iff_ne.mpr e, beq_eq_false_iff_ne.mpr (Ne.symm e)]
theorem in_strs (h : MH) (d : List String) (w : String) : wIn h (.str w) (.tup (d.map .str)) = some (d.contains w) ∧ wIn h (.str w) (.lst (d.map .str)) = some (d.contains w) := by
  have key : inL (.str w) (d.map .str) = some (d.contains w) := by
    unfold inL
    rw [pure_strs, depth_strs, any_strs]
    simp [W.pure]
  exact ⟨key, key⟩
end Py

set_option maxHeartbeats 4000000
namespace Py
theorem call_run {P : Pg} {f k m : Nat} {b : Py.St} (hf : P.fn f = some (k, m, b)) (n : Nat) (ws : List W) (h : MH) (hl : ws.length = k) : call P (n + 1) f ws h = (run P.T b ⟨call P n, callM P n, none⟩ (startE m ws) h).res := by
  rw [call_succ]
  simp only [bodyC, hf]
  rw [if_pos hl]
theorem all_true {α : Type} (l : List α) (h : MH) : wBi .all [.lst (l.map fun _ => W.bl true)] h = .ok (.bl true) h := by
  have : blsOf (l.map fun _ => W.bl true) = some (l.map fun _ => true) := by
    induction l with
    | nil => rfl
    | cons a l ih => simp [blsOf, ih]
  simp [wBi, this]
theorem atI_strs {d : List String} {j : Nat} (hj : j < d.length) : atI (d.map W.str) (j : Int) = some (.str d[j]) := by
  simp [atI, ixN, hj]
theorem words14_sorted : words14.Pairwise (· < ·) := by decide +kernel
/-- a test of every item, all true -/
theorem all_comp {T : Tb} {X : Cxt} {i : Nat} {ws : List Nat} {it e : Ex} {ρ : Env} {h : MH} {xs : List W} (hX : X.calm = true) (hi : evi T X it ρ h = .ok xs h) (hl : xs.length ≤ LIM) (hx : ∀ x ∈ xs, ev T X e ((wipe ρ ws).set i (some x)) h = .ok (.bl true) h) :
    ev T X (.bi .all (.cons (.comp i ws it .yes e) .nil)) ρ h = .ok (.bl true) h := by
  have hc : ev T X (.comp i ws it .yes e) ρ h = .ok (.lst (xs.map fun _ => W.bl true)) h := by
    simp only [ev, hX, if_true, hi, Res.bind_ok]
    rw [compL_filter (g := fun _ => some (W.bl true)) (fun x hx2 => ?_) (by simpa using hl)]
    · congr 2
      simp
    · simp [truth, hx x hx2]
  generalize Ex.comp i ws it .yes e = cE at hc
  simp only [ev, evs, hX, if_true, hc, Res.bind_ok]
  exact all_true xs h
theorem ev_bi1 {T : Tb} {X : Cxt} {q : Bi} {e : Ex} {ρ : Env} {h : MH} {w v : W} (hX : X.calm = true) (he : ev T X e ρ h = .ok w h) (hq : wBi q [w] h = .ok v h) : ev T X (.bi q (.cons e .nil)) ρ h = .ok v h := by
  simp only [ev, evs, hX, if_true, he, Res.bind_ok, hq]
theorem ev_not {T : Tb} {X : Cxt} {e : Ex} {ρ : Env} {h : MH} {b : Bool} (he : ev T X e ρ h = .ok (.bl b) h) : ev T X (.not e) ρ h = .ok (.bl (!b)) h := by
  simp only [ev, he, Res.bind_ok]; rfl
theorem ev_or {T : Tb} {X : Cxt} {e f : Ex} {ρ : Env} {h : MH} {b c : Bool} (he : ev T X e ρ h = .ok (.bl b) h) (hf : ev T X f ρ h = .ok (.bl c) h) : ev T X (.or e f) ρ h = .ok (.bl (b || c)) h := by
  simp only [ev, he, Res.bind_ok]
  cases b <;> simp [truth, hf]
theorem ev_and {T : Tb} {X : Cxt} {e f : Ex} {ρ : Env} {h : MH} {b c : Bool} (he : ev T X e ρ h = .ok (.bl b) h) (hf : ev T X f ρ h = .ok (.bl c) h) : ev T X (.and e f) ρ h = .ok (.bl (b && c)) h := by
  simp only [ev, he, Res.bind_ok]
  cases b <;> simp [truth, hf]
theorem ev_cmp {T : Tb} {X : Cxt} {o : Cop} {e f : Ex} {ρ : Env} {h : MH} {x y : W} {b : Bool} (he : ev T X e ρ h = .ok x h) (hf : ev T X f ρ h = .ok y h) (hc : wCmp o h x y = some b) : ev T X (.cmp o e f) ρ h = .ok (.bl b) h := by
  simp only [ev, he, hf, Res.bind_ok, hc]; rfl
theorem ev_bin {T : Tb} {X : Cxt} {o : Bop} {e f : Ex} {ρ : Env} {h : MH} {x y z : W} (he : ev T X e ρ h = .ok x h) (hf : ev T X f ρ h = .ok y h) (hc : wBin o h x y = some z) : ev T X (.bin o e f) ρ h = .ok z h := by
  simp only [ev, he, hf, Res.bind_ok, hc]; rfl
theorem ev_ix {T : Tb} {X : Cxt} {e f : Ex} {ρ : Env} {h : MH} {x y z : W} (he : ev T X e ρ h = .ok x h) (hf : ev T X f ρ h = .ok y h) (hc : wIx h x y = some z) : ev T X (.ix e f) ρ h = .ok z h := by
  simp only [ev, he, hf, Res.bind_ok, hc]; rfl
theorem ev_call1 {T : Tb} {X : Cxt} {f : Nat} {e : Ex} {ρ : Env} {h h' : MH} {w v : W} (hX : X.calm = true) (he : ev T X e ρ h = .ok w h) (hq : X.C f [w] h = .ok v h') : ev T X (.call f (.cons e .nil)) ρ h = .ok v h' := by
  simp only [ev, evs, hX, if_true, he, Res.bind_ok, hq]
theorem ev_call2 {T : Tb} {X : Cxt} {f : Nat} {e g : Ex} {ρ : Env} {h h' : MH} {w u v : W} (hX : X.calm = true) (he : ev T X e ρ h = .ok w h) (hg : ev T X g ρ h = .ok u h) (hq : X.C f [w, u] h = .ok v h') : ev T X (.call f (.cons e (.cons g .nil))) ρ h = .ok v h' := by
  simp only [ev, evs, hX, if_true, he, hg, Res.bind_ok, hq]
theorem evT_of {T : Tb} {X : Cxt} {e : Ex} {ρ : Env} {h h' : MH} {b : Bool} (he : ev T X e ρ h = .ok (.bl b) h') : evT T X e ρ h = .ok b h' := by
  simp only [evT, he, Res.bind_ok]; rfl
theorem run_ife {T : Tb} {X : Cxt} {c : Ex} {a b : Py.St} {ρ : Env} {h h' : MH} {t : Bool} (he : ev T X c ρ h = .ok (.bl t) h') : run T (.ife c a b) X ρ h = if t then run T a X ρ h' else run T b X ρ h' := by
  simp only [run, evT_of he, stm]
theorem run_ife_seq {T : Tb} {X : Cxt} {c : Ex} {a s : Py.St} {ρ : Env} {h h' : MH} (he : ev T X c ρ h = .ok (.bl false) h') : run T (.seq (.ife c a .skip) s) X ρ h = run T s X ρ h' := by
  refine run_seq ?_
  rw [run_ife he]; rfl
theorem evi_rng2 {T : Tb} {X : Cxt} {e f : Ex} {ρ : Env} {h : MH} {n : Nat} (he : ev T X e ρ h = .ok (.int 1) h) (hf : ev T X f ρ h = .ok (.int n) h) (c1 : isClo 1 = true) (c2 : isClo (n : Int) = true) (hn : n ≤ 100000) : evi T X (.rng2 e f) ρ h = .ok (rngW 1 (n - 1)) h := by
  have e1 : evi T X (.rng2 e f) ρ h = (ev T X e ρ h).bind fun x h1 => (ev T X f ρ h1).bind fun y h2 => match x, y with
    | .int i, .int j => if isClo i && isClo j then .ok (rngW i (j - i).toNat) h2 else .bad
    | _, _ => .bad := by unfold evi; rfl
  rw [e1, he, Res.bind_ok, hf, Res.bind_ok]
  refine (if_pos (by rw [c1, c2]; rfl)).trans ?_
  have : ((n : Int) - 1).toNat = n - 1 := by omega
  rw [this]
/-- a filter of texts -/
theorem ev_filter {T : Tb} {X : Cxt} {i : Nat} {ws : List Nat} {it c : Ex} {ρ : Env} {h : MH} {l : List String} {p : String → Bool} (hX : X.calm = true) (hi : evi T X it ρ h = .ok (l.map .str) h) (hl : l.length ≤ LIM) (hw : ∀ x, ((wipe ρ ws).set i (some x))[i]? = some (some x))
    (hx : ∀ w ∈ l, ev T X c ((wipe ρ ws).set i (some (.str w))) h = .ok (.bl (p w)) h) : ev T X (.comp i ws it c (.var i)) ρ h = .ok (.lst ((l.filter p).map .str)) h := by
  simp only [ev, hX, if_true, hi, Res.bind_ok]
  refine compL_strs hl fun w hw2 => ?_
  simp only [hx w hw2, Res.bind_ok, truth, lift_some, hw]
  cases p w <;> rfl
theorem evi_its {T : Tb} {X : Cxt} {e : Ex} {ρ : Env} {h h' : MH} {w : W} {xs : List W} (he : ev T X e ρ h = .ok w h') (hw : w = .tup xs ∨ w = .lst xs) : evi T X (.its e) ρ h = .ok xs h' := by
  rcases hw with rfl | rfl <;> simp only [evi, he, Res.bind_ok]
theorem ev_ite {T : Tb} {X : Cxt} {c e f : Ex} {ρ : Env} {h h1 h2 : MH} {b : Bool} {w : W} (hc : ev T X c ρ h = .ok (.bl b) h1) (he : (if b then ev T X e ρ h1 else ev T X f ρ h1) = .ok w h2) : ev T X (.ite c e f) ρ h = .ok w h2 := by
  simp only [ev, hc, Res.bind_ok]
  exact he
theorem ev_iteT {T : Tb} {X : Cxt} {c e f : Ex} {ρ : Env} {h h1 h2 : MH} {w : W} (hc : ev T X c ρ h = .ok (.bl true) h1) (he : ev T X e ρ h1 = .ok w h2) : ev T X (.ite c e f) ρ h = .ok w h2 := ev_ite hc (by rw [if_pos rfl]; exact he)
theorem ev_iteF {T : Tb} {X : Cxt} {c e f : Ex} {ρ : Env} {h h1 h2 : MH} {w : W} (hc : ev T X c ρ h = .ok (.bl false) h1) (he : ev T X f ρ h1 = .ok w h2) : ev T X (.ite c e f) ρ h = .ok w h2 := ev_ite hc (by rw [if_neg (by decide)]; exact he)
theorem ev_ixH {T : Tb} {X : Cxt} {e f : Ex} {ρ : Env} {h h1 h2 : MH} {x y z : W} (he : ev T X e ρ h = .ok x h1) (hf : ev T X f ρ h1 = .ok y h2) (hc : wIx h2 x y = some z) : ev T X (.ix e f) ρ h = .ok z h2 := by
  simp only [ev, he, hf, Res.bind_ok, hc]; rfl
theorem ev_call2H {T : Tb} {X : Cxt} {f : Nat} {e g : Ex} {ρ : Env} {h h1 h2 h' : MH} {w u v : W} (hX : X.calm = true) (he : ev T X e ρ h = .ok w h1) (hg : ev T X g ρ h1 = .ok u h2) (hq : X.C f [w, u] h2 = .ok v h') : ev T X (.call f (.cons e (.cons g .nil))) ρ h = .ok v h' := by
  simp only [ev, evs, hX, if_true, he, hg, Res.bind_ok, hq]
theorem run_exp {T : Tb} {X : Cxt} {e : Ex} {ρ : Env} {h h1 : MH} {w : W} (he : ev T X e ρ h = .ok w h1) : Py.run T (.exp e) X ρ h = .nx ρ h1 := by simp only [Py.run, he, stm]
end Py

set_option maxHeartbeats 4000000
namespace Py
namespace Mi
def m1 : Py.St := (.seq (.ife (.bi (.isa [.str]) (.cons (.var 0) .nil)) (.seq (.ret (.cmp .isin (.var 0) (.cst (.tup [(.str "num"), (.str "small"), (.str "big")]))))
  .skip) .skip)
  (.seq (.ife (.or (.not (.bi (.isa [.tuple]) (.cons (.var 0) .nil))) (.or (.cmp .eq (.var 1) (.cst (.int 0))) (.cmp .eq (.var 0) (.tup .nil)))) (.seq (.ret (.cst (.bl false)))
  .skip) .skip)
  (.seq (.ife (.cmp .eq (.ix (.var 0) (.cst (.int 0))) (.cst (.str "cell"))) (.seq (.ret (.and (.cmp .eq (.bi .len (.cons (.var 0) .nil)) (.cst (.int 2))) (.call 1 (.cons (.ix (.var 0) (.cst (.int 1))) (.cons (.bin .sub (.var 1) (.cst (.int 1))) .nil)))))
  .skip) .skip)
  (.seq (.ret (.and (.cmp .eq (.ix (.var 0) (.cst (.int 0))) (.cst (.str "fun"))) (.and (.cmp .eq (.bi .len (.cons (.var 0) .nil)) (.cst (.int 3))) (.and (.call 1 (.cons (.ix (.var 0) (.cst (.int 1))) (.cons (.bin .sub (.var 1) (.cst (.int 1))) .nil))) (.call 1 (.cons (.ix (.var 0) (.cst (.int 2))) (.cons (.bin .sub (.var 1) (.cst (.int 1))) .nil)))))))
  .skip))))
def m2 : Py.St := (.seq (.ret (.call 1 (.cons (.var 0) (.cons (.cst (.int 3)) .nil))))
  .skip)
def m13 : Py.St := (.seq (.ret (.and (.bi (.isa [.int]) (.cons (.var 0) .nil)) (.not (.bi (.isa [.bool]) (.cons (.var 0) .nil)))))
  .skip)
def m14 : Py.St := (.seq (.ret (.and (.call 13 (.cons (.var 0) .nil)) (.chn .le .le (.var 1) (.var 0) (.var 2))))
  .skip)
def m15 : Py.St := (.seq (.ret (.and (.bi (.isa [.tuple]) (.cons (.var 0) .nil)) (.chn .le .le (.var 1) (.bi .len (.cons (.var 0) .nil)) (.var 2))))
  .skip)
def m16 : Py.St := (.seq (.ife (.cmp .isin (.var 0) (.cst (.str "xy"))) (.seq (.ret (.call 14 (.cons (.var 1) (.cons (.cst (.int 0)) (.cons (.cst (.int 40)) .nil)))))
  .skip) .skip)
  (.seq (.ife (.cmp .eq (.var 0) (.cst (.str "n"))) (.seq (.ret (.call 14 (.cons (.var 1) (.cons (.cst (.int 0)) (.cons (.cst (.int 99)) .nil)))))
  .skip) .skip)
  (.seq (.ife (.cmp .eq (.var 0) (.cst (.str "f"))) (.seq (.ret (.call 14 (.cons (.var 1) (.cons (.cst (.int 0)) (.cons (.bin .sub (.cst (.int 3)) (.cst (.int 1))) .nil)))))
  .skip) .skip)
  (.seq (.ret (.ite (.cmp .eq (.var 0) (.cst (.str "w"))) (.cmp .isin (.var 1) (.tup (.cons (.cst (.str "a")) (.cons (.cst (.str "b")) .nil)))) (.call 2 (.cons (.var 1) .nil))))
  .skip))))
def m17 : Py.St := (.seq (.ife (.or (.not (.bi (.isa [.tuple]) (.cons (.var 0) .nil))) (.or (.cmp .eq (.var 0) (.tup .nil)) (.not (.bi (.isa [.str]) (.cons (.ix (.var 0) (.cst (.int 0))) .nil))))) (.seq (.ret (.cst (.bl false)))
  .skip) .skip)
  (.seq (.ife (.cmp .eq (.ix (.var 0) (.cst (.int 0))) (.cst (.str "test"))) (.seq (.ife (.or (.cmp .ne (.bi .len (.cons (.var 0) .nil)) (.cst (.int 3))) (.or (.cmp .eq (.var 1) (.cst (.int 0))) (.not (.call 14 (.cons (.ix (.var 0) (.cst (.int 1))) (.cons (.cst (.int 0)) (.cons (.cst (.int 40)) .nil))))))) (.seq (.ret (.cst (.bl false)))
  .skip) .skip)
  (.seq (.ret (.call 18 (.cons (.ix (.var 0) (.cst (.int 2))) (.cons (.cst (.int 8)) (.cons (.bin .sub (.var 1) (.cst (.int 1))) .nil)))))
  .skip)) .skip)
  (.seq (.asg (.nm 2) (.kget [("num", (.str "xn")), ("small", (.str "xn")), ("big", (.str "xnn")), ("none", (.str "xt")), ("name", (.str "xyt")), ("cell", (.str "xy")), ("blank", (.str "x")), ("get", (.str "xyt")), ("put", (.str "yy")), ("field", (.str "xyw")), ("cast", (.str "xy")), ("fun", (.str "xf")), ("call", (.str "xfy")), ("use", (.str "xyy")), ("show", (.str "y"))] (.ix (.var 0) (.cst (.int 0)))))
  (.seq (.ife (.or (.isc (.var 2) .non) (.cmp .ne (.bi .len (.cons (.var 0) .nil)) (.bin .add (.bi .len (.cons (.var 2) .nil)) (.cst (.int 1))))) (.seq (.ret (.cst (.bl false)))
  .skip) .skip)
  (.seq (.ret (.bi .all (.cons (.comp 3 [3] (.rng1 (.bi .len (.cons (.var 2) .nil))) .yes (.call 16 (.cons (.ix (.var 2) (.var 3)) (.cons (.ix (.var 0) (.bin .add (.var 3) (.cst (.int 1)))) .nil)))) .nil)))
  .skip)))))
def m18 : Py.St := (.seq (.ret (.and (.call 15 (.cons (.var 0) (.cons (.cst (.int 0)) (.cons (.var 1) .nil)))) (.bi .all (.cons (.comp 3 [3] (.its (.var 0)) .yes (.call 17 (.cons (.var 3) (.cons (.var 2) .nil)))) .nil))))
  .skip)
def m19 : Py.St := (.seq (.ife (.or (.not (.call 15 (.cons (.var 0) (.cons (.cst (.int 4)) (.cons (.cst (.int 4)) .nil))))) (.or (.not (.call 2 (.cons (.ix (.var 0) (.cst (.int 0))) .nil))) (.not (.call 2 (.cons (.ix (.var 0) (.cst (.int 1))) .nil))))) (.seq (.ret (.cst (.bl false)))
  .skip) .skip)
  (.seq (.ret (.and (.call 18 (.cons (.ix (.var 0) (.cst (.int 2))) (.cons (.cst (.int 15)) (.cons (.cst (.int 2)) .nil)))) (.call 14 (.cons (.ix (.var 0) (.cst (.int 3))) (.cons (.cst (.int 0)) (.cons (.cst (.int 40)) .nil))))))
  .skip))
def m20 : Py.St := (.seq (.ife (.or (.not (.call 15 (.cons (.var 0) (.cons (.cst (.int 2)) (.cons (.cst (.int 2)) .nil))))) (.not (.call 15 (.cons (.ix (.var 0) (.cst (.int 0))) (.cons (.cst (.int 0)) (.cons (.cst (.int 3)) .nil)))))) (.seq (.rai 3 (.cons (.cst .non) .nil))
  .skip) .skip)
  (.seq (.ife (.not (.call 18 (.cons (.ix (.var 0) (.cst (.int 1))) (.cons (.cst (.int 15)) (.cons (.cst (.int 2)) .nil))))) (.seq (.rai 3 (.cons (.cst .non) .nil))
  .skip) .skip)
  (.seq (.forr (.nm 1) (.rng1 (.bi .len (.cons (.ix (.var 0) (.cst (.int 0))) .nil))) (.seq (.ife (.not (.call 19 (.cons (.ix (.ix (.var 0) (.cst (.int 0))) (.var 1)) .nil))) (.seq (.rai 3 (.cons (.var 1) .nil))
  .skip) .skip)
  .skip))
  .skip)))
/-- the program has these defs -/
structure NP (P : Pg) : Prop where
  f1 : P.fn 1 = some (2, 2, m1)
  f2 : P.fn 2 = some (1, 1, m2)
  f13 : P.fn 13 = some (1, 1, m13)
  f14 : P.fn 14 = some (3, 3, m14)
  f15 : P.fn 15 = some (3, 3, m15)
  f16 : P.fn 16 = some (2, 2, m16)
  f17 : P.fn 17 = some (2, 4, m17)
  f18 : P.fn 18 = some (3, 4, m18)
  f19 : P.fn 19 = some (1, 1, m19)
  f20 : P.fn 20 = some (1, 2, m20)
/-- types -/
inductive Typ where
  | num | small | big | cell (t : Typ) | fn (a b : Typ)
  deriving DecidableEq, Inhabited
def Typ.w : Typ → W
  | .num => .str "num"
  | .small => .str "small"
  | .big => .str "big"
  | .cell t => .tup [.str "cell", t.w]
  | .fn a b => .tup [.str "fun", a.w, b.w]
def Typ.dp : Typ → Nat
  | .cell t => t.dp + 1
  | .fn a b => max a.dp b.dp + 1
  | _ => 0
theorem Typ.pure : ∀ t : Typ, t.w.pure = true
  | .num | .small | .big => rfl
  | .cell t => by simp [Typ.w, W.pure, pureAll, t.pure]
  | .fn a b => by simp [Typ.w, W.pure, pureAll, a.pure, b.pure]
theorem eq_nil (h : MH) {xs : List W} (hp : pureAll xs = true) : wCmp .eq h (.tup xs) (.tup []) = some xs.isEmpty := by
  show wEq h _ _ = _
  have e : eqvAll xs [] = xs.isEmpty := by cases xs <;> rfl
  simp only [wEq, deref, W.pure, hp, pureAll, W.depth, depthAll, W.eqv, e]
  rw [if_pos]
  simp
theorem eq_str (h : MH) (a b : String) : wCmp .eq h (.str a) (.str b) = some (a == b) := by
  simp [wCmp, wEq, deref, W.pure, W.depth, W.eqv]
theorem eq_int (h : MH) (a b : Int) : wCmp .eq h (.int a) (.int b) = some (a == b) := by
  simp [wCmp, wEq, deref, W.pure, W.depth, W.eqv]
theorem run_ifT {T : Tb} {X : Cxt} {c : Ex} {a b s : Py.St} {ρ : Env} {h h' h2 : MH} {w : W} (he : ev T X c ρ h = .ok (.bl true) h') (ha : run T a X ρ h' = .rt w h2) : run T (.seq (.ife c a b) s) X ρ h = .rt w h2 := by
  simp only [run, evT_of he, stm, if_true]
  rw [ha]
theorem isa_str {h : MH} (xs : List W) : wBi (.isa [.str]) [.tup xs] h = .ok (.bl false) h := by
  simp [wBi, isTys, isTy]
theorem isa_tup {h : MH} (xs : List W) : wBi (.isa [.tuple]) [.tup xs] h = .ok (.bl true) h := by
  simp [wBi, isTys, isTy]
def shps : List (String × W) := [("num", (.str "xn")), ("small", (.str "xn")), ("big", (.str "xnn")), ("none", (.str "xt")), ("name", (.str "xyt")), ("cell", (.str "xy")), ("blank", (.str "x")), ("get", (.str "xyt")), ("put", (.str "yy")), ("field", (.str "xyw")), ("cast", (.str "xy")), ("fun", (.str "xf")), ("call", (.str "xfy")), ("use", (.str "xyy")), ("show", (.str "y"))]
theorem len_str (h : MH) {s : String} (hs : s.length ≤ LIM) : wBi .len [.str s] h = .ok (.int s.length) h := by simp [wBi, deref, hs]
theorem len_tup (h : MH) (xs : List W) : wBi .len [.tup xs] h = .ok (.int xs.length) h := by simp [wBi, deref]
theorem ix_zero (h : MH) (x : W) (xs : List W) : wIx h (.tup (x :: xs)) (.int 0) = some x := by
  show atI (x :: xs) 0 = _
  simp [atI, ixN]
theorem ne_int (h : MH) (a b : Int) : wCmp .ne h (.int a) (.int b) = some (!(a == b)) := by
  simp [wCmp, wEq, deref, W.pure, W.depth, W.eqv]
theorem ev_kget {T : Tb} {X : Cxt} {kvs : List (String × W)} {e : Ex} {ρ : Env} {h : MH} {s : String} {w : W} (hc : X.calm = true) (he : ev T X e ρ h = .ok (.str s) h) (hs : sGet s kvs = some w) : ev T X (.kget kvs e) ρ h = .ok w h := by
  simp only [ev, hc, if_true, he, Res.bind_ok, hs, Option.getD_some]
inductive ItemOk : String → W → Prop
  | x {n : Nat} (h : n ≤ 40) : ItemOk "x" (.int n)
  | y {n : Nat} (h : n ≤ 40) : ItemOk "y" (.int n)
  | n {n : Nat} (h : n ≤ 99) : ItemOk "n" (.int n)
  | f {n : Nat} (h : n ≤ 2) : ItemOk "f" (.int n)
  | wa : ItemOk "w" (.str "a")
  | wb : ItemOk "w" (.str "b")
  | t (t : Typ) (h : t.dp ≤ 3) : ItemOk "t" t.w
section
variable {P : Pg} (N : NP P)
include N
theorem deep_ok : ∀ (t : Typ) (k m : Nat) (h : MH), t.dp < k → t.dp ≤ m → call P k 1 [t.w, .int m] h = .ok (.bl true) h
  | .num, k + 1, m, h, _, _ => by rw [call_run N.f1 k _ _ rfl]; rfl
  | .small, k + 1, m, h, _, _ => by rw [call_run N.f1 k _ _ rfl]; rfl
  | .big, k + 1, m, h, _, _ => by rw [call_run N.f1 k _ _ rfl]; rfl
  | .cell t, k + 1, m + 1, h, hk, hm => by
    rw [call_run N.f1 k _ _ rfl]
    have ih := deep_ok t k m h (by simp only [Typ.dp] at hk; omega) (by simp only [Typ.dp] at hm; omega)
    show (Py.run P.T m1 _ [some (.tup [.str "cell", t.w]), some (.int ((m + 1 : Nat) : Int))] h).res = _
    generalize hX : (⟨call P k, callM P k, none⟩ : Cxt) = X
    have hc : X.calm = true := by subst hX; rfl
    have hC : X.C = call P k := by subst hX; rfl
    unfold m1
    have v0 : ∀ ρ, ev P.T X (.var 0) (some (.tup [.str "cell", t.w]) :: ρ) h = .ok (.tup [.str "cell", t.w]) h := fun _ => rfl
    have em : ((((m + 1 : Nat) : Int)) == 0) = false := by simp; omega
    have e1 : (((m + 1 : Nat) : Int)) - 1 = (m : Int) := by omega
    rw [run_ife_seq (h' := h) (ev_bi1 hc (v0 _) (isa_str _))]
    rw [run_ife_seq (h' := h) (ev_or (b := false) (c := false) (ev_not (b := true) (ev_bi1 hc (v0 _) (isa_tup _))) (ev_or (b := false) (c := false)
      (ev_cmp (x := .int ((m + 1 : Nat) : Int)) (y := .int 0) rfl rfl (by rw [eq_int, em])) (ev_cmp (v0 _) rfl (eq_nil h (by simp [pureAll, W.pure, t.pure])))))]
    rw [run_ifT (w := .bl true) (h2 := h) (ev_cmp (b := true) (ev_ix (z := .str "cell") (v0 _) rfl rfl) rfl (by rw [eq_str]; rfl)) (run_ret (ev_and (b := true) (c := true)
      (ev_cmp (ev_bi1 (v := .int 2) hc (v0 _) rfl) rfl (by rw [eq_int]; rfl)) (ev_call2 (w := t.w) (u := .int m) hc (ev_ix (v0 _) rfl rfl) (ev_bin (x := .int ((m + 1 : Nat) : Int)) (y := .int 1) rfl rfl (by simp [wBin, deref, e1])) (by rw [hC]; exact ih))))]
    rfl
  | .fn a b, k + 1, m + 1, h, hk, hm => by
    rw [call_run N.f1 k _ _ rfl]
    have ih1 := deep_ok a k m h (by simp only [Typ.dp] at hk; omega) (by simp only [Typ.dp] at hm; omega)
    have ih2 := deep_ok b k m h (by simp only [Typ.dp] at hk; omega) (by simp only [Typ.dp] at hm; omega)
    show (Py.run P.T m1 _ [some (.tup [.str "fun", a.w, b.w]), some (.int ((m + 1 : Nat) : Int))] h).res = _
    generalize hX : (⟨call P k, callM P k, none⟩ : Cxt) = X
    have hc : X.calm = true := by subst hX; rfl
    have hC : X.C = call P k := by subst hX; rfl
    unfold m1
    have v0 : ∀ ρ, ev P.T X (.var 0) (some (.tup [.str "fun", a.w, b.w]) :: ρ) h = .ok (.tup [.str "fun", a.w, b.w]) h := fun _ => rfl
    have em : ((((m + 1 : Nat) : Int)) == 0) = false := by simp; omega
    have e1 : (((m + 1 : Nat) : Int)) - 1 = (m : Int) := by omega
    have sb : ∀ ρ, ev P.T X (.bin .sub (.var 1) (.cst (.int 1))) (some (.tup [.str "fun", a.w, b.w]) :: some (.int ((m + 1 : Nat) : Int)) :: ρ) h = .ok (.int m) h := fun ρ => ev_bin (x := .int ((m + 1 : Nat) : Int)) (y := .int 1) rfl rfl (by simp [wBin, deref, e1])
    rw [run_ife_seq (h' := h) (ev_bi1 hc (v0 _) (isa_str _))]
    rw [run_ife_seq (h' := h) (ev_or (b := false) (c := false) (ev_not (b := true) (ev_bi1 hc (v0 _) (isa_tup _))) (ev_or (b := false) (c := false)
      (ev_cmp (x := .int ((m + 1 : Nat) : Int)) (y := .int 0) rfl rfl (by rw [eq_int, em])) (ev_cmp (v0 _) rfl (eq_nil h (by simp [pureAll, W.pure, a.pure, b.pure])))))]
    rw [run_ife_seq (h' := h) (ev_cmp (b := false) (ev_ix (z := .str "fun") (v0 _) rfl rfl) rfl (by rw [eq_str]; rfl))]
    rw [run_ret (w := .bl true) (h1 := h) (ev_and (b := true) (c := true) (ev_cmp (b := true) (ev_ix (z := .str "fun") (v0 _) rfl rfl) rfl (by rw [eq_str]; rfl)) (ev_and (b := true) (c := true)
      (ev_cmp (ev_bi1 (v := .int 3) hc (v0 _) rfl) rfl (by rw [eq_int]; rfl)) (ev_and (b := true) (c := true) (ev_call2 (w := a.w) (u := .int m) hc (ev_ix (v0 _) rfl rfl) (sb _) (by rw [hC]; exact ih1))
        (ev_call2 (w := b.w) (u := .int m) hc (ev_ix (v0 _) rfl rfl) (sb _) (by rw [hC]; exact ih2)))))]
    rfl
theorem type_ok (t : Typ) (k : Nat) (h : MH) (hk : 4 < k) (hd : t.dp ≤ 3) : call P k 2 [t.w] h = .ok (.bl true) h := by
  obtain ⟨k, rfl⟩ : ∃ j, k = j + 1 := ⟨k - 1, by omega⟩
  rw [call_run N.f2 k _ _ rfl]
  show (Py.run P.T m2 ⟨call P k, callM P k, none⟩ [some t.w] h).res = _
  unfold m2
  rw [run_ret (w := .bl true) (h1 := h) (ev_call2 (w := t.w) (u := .int ((3 : Nat) : Int)) rfl rfl rfl (deep_ok N t k 3 h (by omega) hd))]
  rfl
theorem in_ok (k : Nat) (h : MH) {i lo hi : Int} (h1 : lo ≤ i) (h2 : i ≤ hi) : call P (k + 2) 14 [.int i, .int lo, .int hi] h = .ok (.bl true) h := by
  rw [call_run N.f14 (k + 1) _ _ rfl]
  show (Py.run P.T m14 ⟨call P (k + 1), callM P (k + 1), none⟩ [some (.int i), some (.int lo), some (.int hi)] h).res = _
  have e : call P (k + 1) 13 [.int i] h = .ok (.bl true) h := by rw [call_run N.f13 k _ _ rfl]; rfl
  have ec : ∀ X, ev P.T X (.chn .le .le (.var 1) (.var 0) (.var 2)) [some (.int i), some (.int lo), some (.int hi)] h = .ok (.bl true) h := fun X => by
    simp [ev, wCmp, h1, h2, Res.bind, truth, lift]
  unfold m14
  rw [run_ret (w := .bl true) (h1 := h) (ev_and (b := true) (c := true) (ev_call1 (w := .int i) rfl rfl e) (ec _))]
  rfl
theorem item_ok {c : String} {w : W} (i : ItemOk c w) (k : Nat) (h : MH) (hk : 5 < k) : call P k 16 [.str c, w] h = .ok (.bl true) h := by
  obtain ⟨k, rfl⟩ : ∃ j, k = j + 3 := ⟨k - 3, by omega⟩
  rw [call_run N.f16 (k + 2) _ _ rfl]
  show (Py.run P.T m16 _ [some (.str c), some w] h).res = _
  generalize hX : (⟨call P (k + 2), callM P (k + 2), none⟩ : Cxt) = X
  have hc : X.calm = true := by subst hX; rfl
  have hC : X.C = call P (k + 2) := by subst hX; rfl
  unfold m16
  cases i with
  | @x n hn =>
    rw [run_ifT (w := .bl true) (h2 := h) rfl (run_ret (show ev P.T X _ _ h = .ok (.bl true) h from by
      simp only [ev, evs, hc, if_true, Res.bind_ok, hC]
      exact in_ok N k h (by omega) (by omega)))]
    rfl
  | @y n hn =>
    rw [run_ifT (w := .bl true) (h2 := h) rfl (run_ret (show ev P.T X _ _ h = .ok (.bl true) h from by
      simp only [ev, evs, hc, if_true, Res.bind_ok, hC]
      exact in_ok N k h (by omega) (by omega)))]
    rfl
  | @n n hn =>
    rw [run_ife_seq (h' := h) rfl]
    rw [run_ifT (w := .bl true) (h2 := h) rfl (run_ret (show ev P.T X _ _ h = .ok (.bl true) h from by
      simp only [ev, evs, hc, if_true, Res.bind_ok, hC]
      exact in_ok N k h (by omega) (by omega)))]
    rfl
  | @f n hn =>
    rw [run_ife_seq (h' := h) rfl, run_ife_seq (h' := h) rfl]
    rw [run_ifT (w := .bl true) (h2 := h) rfl (run_ret (show ev P.T X _ _ h = .ok (.bl true) h from by
      have e : wBin .sub h (.int 3) (.int 1) = some (.int 2) := rfl
      simp only [ev, evs, hc, if_true, Res.bind_ok, hC, e, lift_some]
      exact in_ok N k h (by omega) (by omega)))]
    rfl
  | wa => rw [run_ife_seq (h' := h) rfl, run_ife_seq (h' := h) rfl, run_ife_seq (h' := h) rfl]; rfl
  | wb => rw [run_ife_seq (h' := h) rfl, run_ife_seq (h' := h) rfl, run_ife_seq (h' := h) rfl]; rfl
  | t t ht =>
    rw [run_ife_seq (h' := h) rfl, run_ife_seq (h' := h) rfl, run_ife_seq (h' := h) rfl]
    rw [run_ret (w := .bl true) (h1 := h) (ev_iteF (h1 := h) rfl (ev_call1 (w := t.w) hc rfl (by rw [hC]; exact type_ok N t (k + 2) h (by omega) ht)))]
    rfl
theorem stm_go {kind shape : String} {items : List W} (k : Nat) (t : Int) (h : MH) (hk : sGet kind shps = some (.str shape)) (ht : (kind == "test") = false) (hp : pureAll items = true) (hl : shape.length = items.length) (h5 : items.length ≤ 5)
    (hx : ∀ j, j < items.length → ∃ c w, wIx h (.str shape) (.int (j : Nat)) = some (.str c) ∧ items[j]? = some w ∧ ItemOk c w) (h6 : 5 < k) : call P (k + 1) 17 [.tup (.str kind :: items), .int t] h = .ok (.bl true) h := by
  rw [call_run N.f17 k _ _ rfl]
  show (Py.run P.T m17 _ [some (.tup (.str kind :: items)), some (.int t), none, none] h).res = _
  generalize hX : (⟨call P k, callM P k, none⟩ : Cxt) = X
  have hc : X.calm = true := by subst hX; rfl
  have hC : X.C = call P k := by subst hX; rfl
  have hxc : X.xc = none := by subst hX; rfl
  unfold m17
  have v0 : ∀ ρ, ev P.T X (.var 0) (some (.tup (.str kind :: items)) :: ρ) h = .ok (.tup (.str kind :: items)) h := fun _ => rfl
  have i0 : ∀ ρ, ev P.T X (.ix (.var 0) (.cst (.int 0))) (some (.tup (.str kind :: items)) :: ρ) h = .ok (.str kind) h := fun ρ => ev_ix (v0 _) rfl (ix_zero _ _ _)
  have lm : shape.length ≤ LIM := by rw [hl]; simp only [LIM]; omega
  rw [run_ife_seq (h' := h) (ev_or (b := false) (c := false) (ev_not (b := true) (ev_bi1 hc (v0 _) (isa_tup _))) (ev_or (b := false) (c := false) (ev_cmp (v0 _) rfl (eq_nil h (by simp [pureAll, W.pure, hp])))
    (ev_not (b := true) (ev_bi1 hc (i0 _) (by simp [wBi, isTys, isTy])))))]
  rw [run_ife_seq (h' := h) (ev_cmp (b := false) (i0 _) rfl (by rw [eq_str, ht]))]
  unfold shps at hk
  rw [run_seq (run_asg hxc (ev_kget hc (i0 _) hk))]
  show (Py.run P.T _ X [some (.tup (.str kind :: items)), some (.int t), some (.str shape), none] h).res = _
  have l2 : ev P.T X (.bi .len (.cons (.var 2) .nil)) [some (.tup (.str kind :: items)), some (.int t), some (.str shape), none] h = .ok (.int shape.length) h := ev_bi1 (w := .str shape) hc rfl (len_str h lm)
  rw [run_ife_seq (h' := h) (ev_or (b := false) (c := false) (show ev P.T X (.isc (.var 2) .non) _ h = .ok (.bl false) h from rfl) (ev_cmp (b := false) (ev_bi1 hc (v0 _) (len_tup h _)) (ev_bin (z := .int (shape.length + 1)) l2 rfl (by simp [wBin, deref])) (by
    rw [ne_int]; simp [hl])))]
  rw [run_ret (w := .bl true) (h1 := h) (all_comp (xs := rngW 0 shape.length) hc (by
    rw [evi_rng1, l2, bindI_ok (clo_len (by rw [hl]; omega))]; rfl) (by simp [rngW, LIM, hl]; omega) fun x hx2 => ?_)]
  · rfl
  · obtain ⟨j, hj, rfl⟩ := rngW_mem hx2
    obtain ⟨c, w, e1, e2, io⟩ := hx j (by rw [← hl]; exact hj)
    have e3 : wIx h (.tup (.str kind :: items)) (.int ((j : Int) + 1)) = some w := by
      have hlt : j < items.length := by rw [← hl]; exact hj
      have : ((j : Int) + 1) = ((j + 1 : Nat) : Int) := by omega
      show atI (.str kind :: items) _ = _
      rw [this]
      obtain ⟨z, g1, g2⟩ := atI_nat (xs := W.str kind :: items) (v := ((j + 1 : Nat) : Int)) (by omega) (by simp only [List.length_cons]; omega)
      rw [g2, ← g1]
      show (W.str kind :: items)[j + 1]? = some w
      rw [List.getElem?_cons_succ]
      exact e2
    exact ev_call2 (w := .str c) (u := w) hc (ev_ix (x := .str shape) (y := .int j) rfl rfl e1) (ev_ix (x := .tup (.str kind :: items)) (y := .int ((j : Int) + 1)) rfl (ev_bin (x := .int j) (y := .int 1) rfl rfl (by simp [wBin, deref])) e3) (by rw [hC]; exact item_ok N io k h h6)
end
end Mi
end Py

set_option maxHeartbeats 4000000
namespace Py
namespace Mi
/-- statements -/
inductive Stm where
  | num (x n : Nat) | small (x n : Nat) | big (x n m : Nat) | none (x : Nat) (t : Typ) | name (x y : Nat) (t : Typ) | cell (x y : Nat) | blank (x : Nat) | get (x y : Nat) (t : Typ) | put (y z : Nat)
  | field (x y : Nat) (b : Bool) | cast (x y : Nat) | fn (x f : Nat) | call (x f y : Nat) | use (x y z : Nat) | shw (y : Nat) | test (y : Nat) (b : List Stm)
def iW (n : Nat) : W := .int (n : Nat)
mutual
def Stm.w : Stm → W
  | .num x n => .tup [.str "num", iW x, iW n]
  | .small x n => .tup [.str "small", iW x, iW n]
  | .big x n m => .tup [.str "big", iW x, iW n, iW m]
  | .none x t => .tup [.str "none", iW x, t.w]
  | .name x y t => .tup [.str "name", iW x, iW y, t.w]
  | .cell x y => .tup [.str "cell", iW x, iW y]
  | .blank x => .tup [.str "blank", iW x]
  | .get x y t => .tup [.str "get", iW x, iW y, t.w]
  | .put y z => .tup [.str "put", iW y, iW z]
  | .field x y b => .tup [.str "field", iW x, iW y, .str (if b then "b" else "a")]
  | .cast x y => .tup [.str "cast", iW x, iW y]
  | .fn x f => .tup [.str "fun", iW x, iW f]
  | .call x f y => .tup [.str "call", iW x, iW f, iW y]
  | .use x y z => .tup [.str "use", iW x, iW y, iW z]
  | .shw y => .tup [.str "show", iW y]
  | .test y b => .tup [.str "test", iW y, .tup (wsS b)]
def wsS : List Stm → List W
  | [] => []
  | s :: r => s.w :: wsS r
end
def nm (n : Nat) : Bool := decide (n ≤ 40)
def nn (n : Nat) : Bool := decide (n ≤ 99)
def nf (n : Nat) : Bool := decide (n ≤ 2)
def nt (t : Typ) : Bool := decide (t.dp ≤ 3)
mutual
/-- a statement with at most so many tests within one another -/
def Stm.ok : Stm → Nat → Bool
  | .num x n, _ => nm x && nn n
  | .small x n, _ => nm x && nn n
  | .big x n m, _ => nm x && nn n && nn m
  | .none x t, _ => nm x && nt t
  | .name x y t, _ => nm x && nm y && nt t
  | .cell x y, _ => nm x && nm y
  | .blank x, _ => nm x
  | .get x y t, _ => nm x && nm y && nt t
  | .put y z, _ => nm y && nm z
  | .field x y _, _ => nm x && nm y
  | .cast x y, _ => nm x && nm y
  | .fn x f, _ => nm x && nf f
  | .call x f y, _ => nm x && nf f && nm y
  | .use x y z, _ => nm x && nm y && nm z
  | .shw y, _ => nm y
  | .test y b, t => match t with
    | 0 => false
    | t + 1 => nm y && decide (b.length ≤ 8) && okS b t
def okS : List Stm → Nat → Bool
  | [], _ => true
  | s :: r, t => s.ok t && okS r t
end
mutual
theorem Stm.pure : ∀ s : Stm, s.w.pure = true
  | .num .. | .small .. | .big .. | .cell .. | .blank .. | .put .. | .field .. | .cast .. | .fn .. | .call .. | .use .. | .shw .. => rfl
  | .none x t => by simp [Stm.w, W.pure, pureAll, iW, t.pure]
  | .name x y t => by simp [Stm.w, W.pure, pureAll, iW, t.pure]
  | .get x y t => by simp [Stm.w, W.pure, pureAll, iW, t.pure]
  | .test y b => by simp [Stm.w, W.pure, pureAll, iW, pureS b]
theorem pureS : ∀ l : List Stm, pureAll (wsS l) = true
  | [] => rfl
  | s :: r => by simp [wsS, pureAll, s.pure, pureS r]
end
theorem wsS_len : ∀ l : List Stm, (wsS l).length = l.length
  | [] => rfl
  | s :: r => by simp [wsS, wsS_len r]
theorem wsS_mem {x : W} : ∀ {l : List Stm} {t : Nat}, x ∈ wsS l → okS l t = true → ∃ s ∈ l, x = s.w ∧ s.ok t = true
  | s :: r, t, h, o => by
    simp only [okS, Bool.and_eq_true] at o
    rcases List.mem_cons.mp h with rfl | h
    · exact ⟨s, List.mem_cons_self, rfl, o.1⟩
    · obtain ⟨u, h1, h2, h3⟩ := wsS_mem h o.2
      exact ⟨u, List.mem_cons_of_mem _ h1, h2, h3⟩
theorem sh1 {c1 : String} {a : W} (h : MH) {s : String} (i1 : ItemOk c1 a) (e1 : wIx h (.str s) (.int 0) = some (.str c1)) :
    ∀ j, j < [a].length → ∃ c w, wIx h (.str s) (.int (j : Nat)) = some (.str c) ∧ [a][j]? = some w ∧ ItemOk c w := fun j hj => by
  match j, hj with
  | 0, _ => exact ⟨c1, a, e1, rfl, i1⟩
theorem sh2 {c1 c2 : String} {a b : W} (h : MH) {s : String} (i1 : ItemOk c1 a) (i2 : ItemOk c2 b) (e1 : wIx h (.str s) (.int 0) = some (.str c1)) (e2 : wIx h (.str s) (.int 1) = some (.str c2)) :
    ∀ j, j < [a, b].length → ∃ c w, wIx h (.str s) (.int (j : Nat)) = some (.str c) ∧ [a, b][j]? = some w ∧ ItemOk c w := fun j hj => by
  match j, hj with
  | 0, _ => exact ⟨c1, a, e1, rfl, i1⟩
  | 1, _ => exact ⟨c2, b, e2, rfl, i2⟩
theorem sh3 {c1 c2 c3 : String} {a b d : W} (h : MH) {s : String} (i1 : ItemOk c1 a) (i2 : ItemOk c2 b) (i3 : ItemOk c3 d) (e1 : wIx h (.str s) (.int 0) = some (.str c1)) (e2 : wIx h (.str s) (.int 1) = some (.str c2)) (e3 : wIx h (.str s) (.int 2) = some (.str c3)) :
    ∀ j, j < [a, b, d].length → ∃ c w, wIx h (.str s) (.int (j : Nat)) = some (.str c) ∧ [a, b, d][j]? = some w ∧ ItemOk c w := fun j hj => by
  match j, hj with
  | 0, _ => exact ⟨c1, a, e1, rfl, i1⟩
  | 1, _ => exact ⟨c2, b, e2, rfl, i2⟩
  | 2, _ => exact ⟨c3, d, e3, rfl, i3⟩
theorem eq_list (h : MH) (xs : List W) (lo hi : Int) (h1 : lo ≤ xs.length) (h2 : (xs.length : Int) ≤ hi) {P : Pg} (N : NP P) (k : Nat) : call P (k + 1) 15 [.tup xs, .int lo, .int hi] h = .ok (.bl true) h := by
  rw [call_run N.f15 k _ _ rfl]
  show (Py.run P.T m15 ⟨call P k, callM P k, Option.none⟩ [some (.tup xs), some (.int lo), some (.int hi)] h).res = _
  have ec : ∀ X : Cxt, X.calm = true → ev P.T X (.chn .le .le (.var 1) (.bi .len (.cons (.var 0) .nil)) (.var 2)) [some (.tup xs), some (.int lo), some (.int hi)] h = .ok (.bl true) h := fun X hc => by
    have l0 : ev P.T X (.bi .len (.cons (.var 0) .nil)) [some (.tup xs), some (.int lo), some (.int hi)] h = .ok (.int xs.length) h := ev_bi1 (w := .tup xs) hc rfl (len_tup h xs)
    have v1 : ev P.T X (.var 1) [some (.tup xs), some (.int lo), some (.int hi)] h = .ok (.int lo) h := rfl
    have v2 : ev P.T X (.var 2) [some (.tup xs), some (.int lo), some (.int hi)] h = .ok (.int hi) h := rfl
    generalize (Ex.bi Bi.len ((Ex.var 0).cons Ex.nil)) = e0 at l0
    generalize (Ex.var 1) = e1 at v1
    generalize (Ex.var 2) = e2 at v2
    simp [ev, l0, v1, v2, wCmp, h1, h2, lift_some]
  unfold m15
  rw [run_ret (w := .bl true) (h1 := h) (ev_and (b := true) (c := true) (ev_bi1 (w := .tup xs) rfl rfl (isa_tup _)) (ec _ rfl))]
  rfl
section
variable {P : Pg} (N : NP P)
include N
theorem bod_of {l : List Stm} {most t : Nat} (k : Nat) (h : MH) (hl : l.length ≤ most) (h100 : l.length ≤ 100) (hs : ∀ s ∈ l, s.ok t = true → call P k 17 [s.w, .int t] h = .ok (.bl true) h) (ho : okS l t = true) (hk : 1 ≤ k) :
    call P (k + 1) 18 [.tup (wsS l), .int most, .int t] h = .ok (.bl true) h := by
  rw [call_run N.f18 k _ _ rfl]
  show (Py.run P.T m18 _ [some (.tup (wsS l)), some (.int most), some (.int t), Option.none] h).res = _
  generalize hX : (⟨call P k, callM P k, Option.none⟩ : Cxt) = X
  have hc : X.calm = true := by subst hX; rfl
  have hC : X.C = call P k := by subst hX; rfl
  obtain ⟨k, rfl⟩ : ∃ j, k = j + 1 := ⟨k - 1, by omega⟩
  have e1 : ev P.T X (.call 15 (.cons (.var 0) (.cons (.cst (.int 0)) (.cons (.var 1) .nil)))) [some (.tup (wsS l)), some (.int most), some (.int t), Option.none] h = .ok (.bl true) h := by
    have q := eq_list h (wsS l) 0 most (by omega) (by rw [wsS_len]; omega) N k
    have v0 : ev P.T X (.var 0) [some (.tup (wsS l)), some (.int most), some (.int t), Option.none] h = .ok (.tup (wsS l)) h := rfl
    have v1 : ev P.T X (.var 1) [some (.tup (wsS l)), some (.int most), some (.int t), Option.none] h = .ok (.int most) h := rfl
    generalize (Ex.var 0) = x0 at v0
    generalize (Ex.var 1) = x1 at v1
    simp only [ev, evs, hc, if_true, v0, v1, Res.bind_ok, hC]
    exact q
  unfold m18
  rw [run_ret (w := .bl true) (h1 := h) (ev_and (b := true) (c := true) e1 (all_comp (xs := wsS l) hc (evi_its (w := .tup (wsS l)) rfl (.inl rfl)) (by rw [wsS_len]; simp only [LIM]; omega) fun x hx => ?_))]
  · rfl
  · obtain ⟨s, h1, rfl, h2⟩ := wsS_mem hx ho
    exact ev_call2 (w := s.w) (u := .int t) hc rfl rfl (by rw [hC]; exact hs s h1 h2)
end
end Mi
end Py

set_option maxHeartbeats 4000000
namespace Py
namespace Mi
theorem nm_le {n : Nat} (h : nm n = true) : n ≤ 40 := of_decide_eq_true h
theorem nn_le {n : Nat} (h : nn n = true) : n ≤ 99 := of_decide_eq_true h
theorem nf_le {n : Nat} (h : nf n = true) : n ≤ 2 := of_decide_eq_true h
theorem nt_le {t : Typ} (h : nt t = true) : t.dp ≤ 3 := of_decide_eq_true h
theorem w_ok (b : Bool) : ItemOk "w" (.str (if b then "b" else "a")) := by
  cases b
  · exact .wa
  · exact .wb
section
variable {P : Pg} (N : NP P)
include N
theorem in40 (k : Nat) (h : MH) {y : Nat} (hy : y ≤ 40) (hk : 2 ≤ k) : call P k 14 [.int y, .int 0, .int 40] h = .ok (.bl true) h := by
  obtain ⟨k, rfl⟩ : ∃ j, k = j + 2 := ⟨k - 2, by omega⟩
  exact in_ok N k h (by omega) (by omega)
mutual
theorem stm_ok : ∀ (s : Stm) (t k : Nat) (h : MH), s.ok t = true → 2 * t + 6 < k → call P k 17 [s.w, .int t] h = .ok (.bl true) h
  | .num x n, q, k + 1, h, o, hk => by
    simp only [Stm.ok, Bool.and_eq_true] at o
    obtain ⟨h0, h1⟩ := o
    exact stm_go N (shape := "xn") k q h rfl rfl rfl rfl (by simp) (sh2 h (.x (nm_le h0)) (.n (nn_le h1)) rfl rfl) (by omega)
  | .small x n, q, k + 1, h, o, hk => by
    simp only [Stm.ok, Bool.and_eq_true] at o
    obtain ⟨h0, h1⟩ := o
    exact stm_go N (shape := "xn") k q h rfl rfl rfl rfl (by simp) (sh2 h (.x (nm_le h0)) (.n (nn_le h1)) rfl rfl) (by omega)
  | .big x n m, q, k + 1, h, o, hk => by
    simp only [Stm.ok, Bool.and_eq_true] at o
    obtain ⟨⟨h0, h1⟩, h2⟩ := o
    exact stm_go N (shape := "xnn") k q h rfl rfl rfl rfl (by simp) (sh3 h (.x (nm_le h0)) (.n (nn_le h1)) (.n (nn_le h2)) rfl rfl rfl) (by omega)
  | .none x t, q, k + 1, h, o, hk => by
    simp only [Stm.ok, Bool.and_eq_true] at o
    obtain ⟨h0, h1⟩ := o
    exact stm_go N (shape := "xt") k q h rfl rfl (by simp [pureAll, iW, W.pure, Typ.pure]) rfl (by simp) (sh2 h (.x (nm_le h0)) (.t _ (nt_le h1)) rfl rfl) (by omega)
  | .name x y t, q, k + 1, h, o, hk => by
    simp only [Stm.ok, Bool.and_eq_true] at o
    obtain ⟨⟨h0, h1⟩, h2⟩ := o
    exact stm_go N (shape := "xyt") k q h rfl rfl (by simp [pureAll, iW, W.pure, Typ.pure]) rfl (by simp) (sh3 h (.x (nm_le h0)) (.y (nm_le h1)) (.t _ (nt_le h2)) rfl rfl rfl) (by omega)
  | .cell x y, q, k + 1, h, o, hk => by
    simp only [Stm.ok, Bool.and_eq_true] at o
    obtain ⟨h0, h1⟩ := o
    exact stm_go N (shape := "xy") k q h rfl rfl rfl rfl (by simp) (sh2 h (.x (nm_le h0)) (.y (nm_le h1)) rfl rfl) (by omega)
  | .blank x, q, k + 1, h, o, hk => by
    simp only [Stm.ok] at o
    have h0 := o
    exact stm_go N (shape := "x") k q h rfl rfl rfl rfl (by simp) (sh1 h (.x (nm_le h0)) rfl) (by omega)
  | .get x y t, q, k + 1, h, o, hk => by
    simp only [Stm.ok, Bool.and_eq_true] at o
    obtain ⟨⟨h0, h1⟩, h2⟩ := o
    exact stm_go N (shape := "xyt") k q h rfl rfl (by simp [pureAll, iW, W.pure, Typ.pure]) rfl (by simp) (sh3 h (.x (nm_le h0)) (.y (nm_le h1)) (.t _ (nt_le h2)) rfl rfl rfl) (by omega)
  | .put y z, q, k + 1, h, o, hk => by
    simp only [Stm.ok, Bool.and_eq_true] at o
    obtain ⟨h0, h1⟩ := o
    exact stm_go N (shape := "yy") k q h rfl rfl rfl rfl (by simp) (sh2 h (.y (nm_le h0)) (.y (nm_le h1)) rfl rfl) (by omega)
  | .field x y b, q, k + 1, h, o, hk => by
    simp only [Stm.ok, Bool.and_eq_true] at o
    obtain ⟨h0, h1⟩ := o
    exact stm_go N (shape := "xyw") k q h rfl rfl rfl rfl (by simp) (sh3 h (.x (nm_le h0)) (.y (nm_le h1)) (w_ok _) rfl rfl rfl) (by omega)
  | .cast x y, q, k + 1, h, o, hk => by
    simp only [Stm.ok, Bool.and_eq_true] at o
    obtain ⟨h0, h1⟩ := o
    exact stm_go N (shape := "xy") k q h rfl rfl rfl rfl (by simp) (sh2 h (.x (nm_le h0)) (.y (nm_le h1)) rfl rfl) (by omega)
  | .fn x f, q, k + 1, h, o, hk => by
    simp only [Stm.ok, Bool.and_eq_true] at o
    obtain ⟨h0, h1⟩ := o
    exact stm_go N (shape := "xf") k q h rfl rfl rfl rfl (by simp) (sh2 h (.x (nm_le h0)) (.f (nf_le h1)) rfl rfl) (by omega)
  | .call x f y, q, k + 1, h, o, hk => by
    simp only [Stm.ok, Bool.and_eq_true] at o
    obtain ⟨⟨h0, h1⟩, h2⟩ := o
    exact stm_go N (shape := "xfy") k q h rfl rfl rfl rfl (by simp) (sh3 h (.x (nm_le h0)) (.f (nf_le h1)) (.y (nm_le h2)) rfl rfl rfl) (by omega)
  | .use x y z, q, k + 1, h, o, hk => by
    simp only [Stm.ok, Bool.and_eq_true] at o
    obtain ⟨⟨h0, h1⟩, h2⟩ := o
    exact stm_go N (shape := "xyy") k q h rfl rfl rfl rfl (by simp) (sh3 h (.x (nm_le h0)) (.y (nm_le h1)) (.y (nm_le h2)) rfl rfl rfl) (by omega)
  | .shw y, q, k + 1, h, o, hk => by
    simp only [Stm.ok] at o
    have h0 := o
    exact stm_go N (shape := "y") k q h rfl rfl rfl rfl (by simp) (sh1 h (.y (nm_le h0)) rfl) (by omega)
  | .test y b, t + 1, k + 1, h, o, hk => by
    simp only [Stm.ok, Bool.and_eq_true, decide_eq_true_eq] at o
    obtain ⟨⟨h1, h2⟩, h3⟩ := o
    obtain ⟨k, rfl⟩ : ∃ j, k = j + 1 := ⟨k - 1, by omega⟩
    have ib := bod_of N (t := t) (most := 8) k h h2 (by omega) (fun s hs ho => lst_ok b t k h h3 (by omega) s hs) h3 (by omega)
    rw [call_run N.f17 (k + 1) _ _ rfl]
    show (Py.run P.T m17 _ [some (.tup [.str "test", iW y, .tup (wsS b)]), some (.int ((t + 1 : Nat) : Int)), Option.none, Option.none] h).res = _
    generalize hX : (⟨Py.call P (k + 1), callM P (k + 1), Option.none⟩ : Cxt) = X
    have hc : X.calm = true := by subst hX; rfl
    have hC : X.C = Py.call P (k + 1) := by subst hX; rfl
    unfold m17
    have v0 : ∀ ρ, ev P.T X (.var 0) (some (.tup [.str "test", iW y, .tup (wsS b)]) :: ρ) h = .ok (.tup [.str "test", iW y, .tup (wsS b)]) h := fun _ => rfl
    have i0 : ∀ ρ, ev P.T X (.ix (.var 0) (.cst (.int 0))) (some (.tup [.str "test", iW y, .tup (wsS b)]) :: ρ) h = .ok (.str "test") h := fun ρ => ev_ix (v0 _) rfl (ix_zero _ _ _)
    have em : ((((t + 1 : Nat) : Int)) == 0) = false := by simp; omega
    have e1 : (((t + 1 : Nat) : Int)) - 1 = (t : Int) := by omega
    rw [run_ife_seq (h' := h) (ev_or (b := false) (c := false) (ev_not (b := true) (ev_bi1 hc (v0 _) (isa_tup _))) (ev_or (b := false) (c := false) (ev_cmp (v0 _) rfl (eq_nil h (by simp [pureAll, W.pure, iW, pureS])))
      (ev_not (b := true) (ev_bi1 hc (i0 _) (by simp [wBi, isTys, isTy])))))]
    rw [run_ifT (w := .bl true) (h2 := h) (ev_cmp (b := true) (i0 _) rfl (by rw [eq_str]; rfl)) ?_]
    · rfl
    · rw [run_ife_seq (h' := h) (ev_or (b := false) (c := false) (ev_cmp (b := false) (ev_bi1 (v := .int 3) hc (v0 _) rfl) rfl (by rw [ne_int]; rfl)) (ev_or (b := false) (c := false)
        (ev_cmp (b := false) (x := .int ((t + 1 : Nat) : Int)) (y := .int 0) rfl rfl (by rw [eq_int, em])) (ev_not (b := true) (show ev P.T X (.call 14 _) _ h = .ok (.bl true) h from by
          simp only [ev, evs, hc, if_true, hC]
          exact in40 N (k + 1) h (nm_le h1) (by omega)))))]
      rw [run_ret (w := .bl true) (h1 := h) (show ev P.T X (.call 18 _) _ h = .ok (.bl true) h from by
        have sb : ev P.T X (.bin .sub (.var 1) (.cst (.int 1))) [some (.tup [.str "test", iW y, .tup (wsS b)]), some (.int ((t + 1 : Nat) : Int)), Option.none, Option.none] h = .ok (.int t) h := ev_bin (x := .int ((t + 1 : Nat) : Int)) (y := .int 1) rfl rfl (by simp [wBin, deref, e1])
        have i2 : ev P.T X (.ix (.var 0) (.cst (.int 2))) [some (.tup [.str "test", iW y, .tup (wsS b)]), some (.int ((t + 1 : Nat) : Int)), Option.none, Option.none] h = .ok (.tup (wsS b)) h := ev_ix (v0 _) rfl rfl
        generalize (Ex.bin Bop.sub (Ex.var 1) (Ex.cst (.int 1))) = eb at sb
        generalize (Ex.ix (Ex.var 0) (Ex.cst (.int 2))) = ei at i2
        simp only [ev, evs, hc, if_true, hC, sb, i2, Res.bind_ok]
        exact ib)]
theorem lst_ok : ∀ (l : List Stm) (t k : Nat) (h : MH), okS l t = true → 2 * t + 6 < k → ∀ s ∈ l, call P k 17 [s.w, .int t] h = .ok (.bl true) h
  | s :: r, t, k, h, o, hk, u, hu => by
    simp only [okS, Bool.and_eq_true] at o
    rcases List.mem_cons.mp hu with e | hu
    · rw [e]; exact stm_ok s t k h o.1 hk
    · exact lst_ok r t k h o.2 hk u hu
end
end
end Mi
end Py

set_option maxHeartbeats 4000000
namespace Py
namespace Mi
structure Fun where
  a : Typ
  r : Typ
  b : List Stm
  x : Nat
structure Prog where
  fs : List Fun
  b : List Stm
def Fun.w (f : Fun) : W := .tup [f.a.w, f.r.w, .tup (wsS f.b), iW f.x]
def Fun.ok (f : Fun) : Bool := nt f.a && nt f.r && decide (f.b.length ≤ 15) && okS f.b 2 && nm f.x
def Prog.w (p : Prog) : W := .tup [.tup (p.fs.map Fun.w), .tup (wsS p.b)]
def Prog.ok (p : Prog) : Bool := decide (p.fs.length ≤ 3) && p.fs.all Fun.ok && decide (p.b.length ≤ 15) && okS p.b 2
/-- a loop whose turns change nothing but the name -/
theorem forL_stay {g : W → Env → MH → Res Env} {b : Env → MH → Out} {h : MH} {I : Env → Prop} : ∀ (xs : List W) (ρ : Env), I ρ → (∀ x ∈ xs, ∀ ρ, I ρ → ∃ ρ1 ρ2, g x ρ h = .ok ρ1 h ∧ b ρ1 h = .nx ρ2 h ∧ I ρ2) → ∃ ρ2, forL g b xs ρ h = .nx ρ2 h ∧ I ρ2
  | [], ρ, i, _ => ⟨ρ, rfl, i⟩
  | x :: xs, ρ, i, f => by
    obtain ⟨ρ1, ρ2, e1, e2, i2⟩ := f x List.mem_cons_self ρ i
    obtain ⟨ρ3, e3, i3⟩ := forL_stay xs ρ2 i2 fun y hy => f y (List.mem_cons_of_mem _ hy)
    exact ⟨ρ3, by rw [forL, e1]; simp only [e2]; exact e3, i3⟩
theorem run_forr {T : Tb} {X : Cxt} {t : Tg} {it : Ex} {b : Py.St} {ρ : Env} {h h1 : MH} {xs : List W} (hc : X.calm = true) (e : evi T X it ρ h = .ok xs h1) : Py.run T (.forr t it b) X ρ h = forL (asn T X t) (Py.run T b X) xs ρ h1 := by
  simp only [Py.run, hc, if_true, e, stm]
section
variable {P : Pg} (N : NP P)
include N
theorem fun_ok (f : Fun) (k : Nat) (h : MH) (o : f.ok = true) (hk : 14 ≤ k) : call P k 19 [f.w] h = .ok (.bl true) h := by
  simp only [Fun.ok, Bool.and_eq_true, decide_eq_true_eq] at o
  obtain ⟨⟨⟨⟨o1, o2⟩, o3⟩, o4⟩, o5⟩ := o
  obtain ⟨k, rfl⟩ : ∃ j, k = j + 3 := ⟨k - 3, by omega⟩
  rw [call_run N.f19 (k + 2) _ _ rfl]
  show (Py.run P.T m19 _ [some f.w] h).res = _
  generalize hX : (⟨Py.call P (k + 2), callM P (k + 2), Option.none⟩ : Cxt) = X
  have hc : X.calm = true := by subst hX; rfl
  have hC : X.C = Py.call P (k + 2) := by subst hX; rfl
  have v0 : ev P.T X (.var 0) [some f.w] h = .ok f.w h := rfl
  have q0 : ev P.T X (.ix (.var 0) (.cst (.int 0))) [some f.w] h = .ok f.a.w h := ev_ix v0 rfl rfl
  have q1 : ev P.T X (.ix (.var 0) (.cst (.int 1))) [some f.w] h = .ok f.r.w h := ev_ix v0 rfl rfl
  have q2 : ev P.T X (.ix (.var 0) (.cst (.int 2))) [some f.w] h = .ok (.tup (wsS f.b)) h := ev_ix v0 rfl rfl
  have q3 : ev P.T X (.ix (.var 0) (.cst (.int 3))) [some f.w] h = .ok (iW f.x) h := ev_ix v0 rfl rfl
  have c0 : ev P.T X (.call 15 (.cons (.var 0) (.cons (.cst (.int 4)) (.cons (.cst (.int 4)) .nil)))) [some f.w] h = .ok (.bl true) h := by
    generalize (Ex.var 0) = x0 at v0
    simp only [ev, evs, hc, if_true, v0, Res.bind_ok, hC]
    exact eq_list h _ 4 4 (by simp) (by simp) N (k + 1)
  have c1 := ev_call1 (f := 2) hc q0 (by rw [hC]; exact type_ok N f.a (k + 2) h (by omega) (nt_le o1))
  have c2 := ev_call1 (f := 2) hc q1 (by rw [hC]; exact type_ok N f.r (k + 2) h (by omega) (nt_le o2))
  have c3 : ev P.T X (.call 18 (.cons (.ix (.var 0) (.cst (.int 2))) (.cons (.cst (.int 15)) (.cons (.cst (.int 2)) .nil)))) [some f.w] h = .ok (.bl true) h := by
    have ib := bod_of N (t := 2) (most := 15) (k + 1) h o3 (by omega) (fun s hs ho => lst_ok N f.b 2 (k + 1) h o4 (by omega) s hs) o4 (by omega)
    generalize (Ex.ix (.var 0) (.cst (.int 2))) = x2 at q2
    simp only [ev, evs, hc, if_true, q2, Res.bind_ok, hC]
    exact ib
  have c4 : ev P.T X (.call 14 (.cons (.ix (.var 0) (.cst (.int 3))) (.cons (.cst (.int 0)) (.cons (.cst (.int 40)) .nil)))) [some f.w] h = .ok (.bl true) h := by
    generalize (Ex.ix (.var 0) (.cst (.int 3))) = x3 at q3
    simp only [ev, evs, hc, if_true, q3, Res.bind_ok, hC]
    exact in40 N (k + 2) h (nm_le o5) (by omega)
  unfold m19
  rw [run_ife_seq (h' := h) (ev_or (b := false) (c := false) (ev_not c0) (ev_or (b := false) (c := false) (ev_not c1) (ev_not c2)))]
  rw [run_ret (w := .bl true) (h1 := h) (ev_and (b := true) (c := true) c3 c4)]
  rfl
theorem need_program_ok (p : Prog) (k : Nat) (h : MH) (o : p.ok = true) (hk : 16 ≤ k) : call P k 20 [p.w] h = .ok .non h := by
  simp only [Prog.ok, Bool.and_eq_true, decide_eq_true_eq] at o
  obtain ⟨⟨⟨o1, o2⟩, o3⟩, o4⟩ := o
  obtain ⟨k, rfl⟩ : ∃ j, k = j + 3 := ⟨k - 3, by omega⟩
  rw [call_run N.f20 (k + 2) _ _ rfl]
  show (Py.run P.T m20 _ [some p.w, Option.none] h).res = _
  generalize hX : (⟨Py.call P (k + 2), callM P (k + 2), Option.none⟩ : Cxt) = X
  have hc : X.calm = true := by subst hX; rfl
  have hx : X.xc = Option.none := by subst hX; rfl
  have hC : X.C = Py.call P (k + 2) := by subst hX; rfl
  have v0 : ∀ ρ, ev P.T X (.var 0) (some p.w :: ρ) h = .ok p.w h := fun _ => rfl
  have q0 : ∀ ρ, ev P.T X (.ix (.var 0) (.cst (.int 0))) (some p.w :: ρ) h = .ok (.tup (p.fs.map Fun.w)) h := fun ρ => ev_ix (v0 _) rfl rfl
  have q1 : ∀ ρ, ev P.T X (.ix (.var 0) (.cst (.int 1))) (some p.w :: ρ) h = .ok (.tup (wsS p.b)) h := fun ρ => ev_ix (v0 _) rfl rfl
  have c0 : ∀ ρ, ev P.T X (.call 15 (.cons (.var 0) (.cons (.cst (.int 2)) (.cons (.cst (.int 2)) .nil)))) (some p.w :: ρ) h = .ok (.bl true) h := fun ρ => by
    have v := v0 ρ
    generalize (Ex.var 0) = x0 at v
    simp only [ev, evs, hc, if_true, v, Res.bind_ok, hC]
    exact eq_list h _ 2 2 (by simp) (by simp) N (k + 1)
  have c1 : ∀ ρ, ev P.T X (.call 15 (.cons (.ix (.var 0) (.cst (.int 0))) (.cons (.cst (.int 0)) (.cons (.cst (.int 3)) .nil)))) (some p.w :: ρ) h = .ok (.bl true) h := fun ρ => by
    have v := q0 ρ
    generalize (Ex.ix (.var 0) (.cst (.int 0))) = x0 at v
    simp only [ev, evs, hc, if_true, v, Res.bind_ok, hC]
    exact eq_list h _ 0 3 (by simp) (by simp; omega) N (k + 1)
  have c3 : ∀ ρ, ev P.T X (.call 18 (.cons (.ix (.var 0) (.cst (.int 1))) (.cons (.cst (.int 15)) (.cons (.cst (.int 2)) .nil)))) (some p.w :: ρ) h = .ok (.bl true) h := fun ρ => by
    have ib := bod_of N (t := 2) (most := 15) (k + 1) h o3 (by omega) (fun s hs ho => lst_ok N p.b 2 (k + 1) h o4 (by omega) s hs) o4 (by omega)
    have v := q1 ρ
    generalize (Ex.ix (.var 0) (.cst (.int 1))) = x2 at v
    simp only [ev, evs, hc, if_true, v, Res.bind_ok, hC]
    exact ib
  unfold m20
  rw [run_ife_seq (h' := h) (ev_or (b := false) (c := false) (ev_not (c0 _)) (ev_not (c1 _)))]
  rw [run_ife_seq (h' := h) (ev_not (c3 _))]
  have lp : ∃ ρ2, Py.run P.T (.forr (.nm 1) (.rng1 (.bi .len (.cons (.ix (.var 0) (.cst (.int 0))) .nil))) (.seq (.ife (.not (.call 19 (.cons (.ix (.ix (.var 0) (.cst (.int 0))) (.var 1)) .nil))) (.seq (.rai 3 (.cons (.var 1) .nil)) .skip) .skip) .skip)) X [some p.w, Option.none] h = .nx ρ2 h := by
    have hl : (p.fs.map Fun.w).length = p.fs.length := List.length_map _
    have ln : ev P.T X (.bi .len (.cons (.ix (.var 0) (.cst (.int 0))) .nil)) [some p.w, Option.none] h = .ok (.int p.fs.length) h := by
      rw [← hl]; exact ev_bi1 hc (q0 _) (len_tup h _)
    have er : evi P.T X (.rng1 (.bi .len (.cons (.ix (.var 0) (.cst (.int 0))) .nil))) [some p.w, Option.none] h = .ok (rngW 0 p.fs.length) h := by
      rw [evi_rng1, ln, bindI_ok (clo_len (by omega))]; rfl
    obtain ⟨ρ2, e2, _⟩ := forL_stay (g := asn P.T X (.nm 1)) (b := Py.run P.T (.seq (.ife (.not (.call 19 (.cons (.ix (.ix (.var 0) (.cst (.int 0))) (.var 1)) .nil))) (.seq (.rai 3 (.cons (.var 1) .nil)) .skip) .skip) .skip) X) (h := h)
      (I := fun ρ => ∃ z, ρ = [some p.w, z]) (rngW 0 p.fs.length) [some p.w, Option.none] ⟨_, rfl⟩ fun x hx2 ρ hr => by
        obtain ⟨z, rfl⟩ := hr
        obtain ⟨j, hj, rfl⟩ := rngW_mem hx2
        refine ⟨[some p.w, some (.int j)], [some p.w, some (.int j)], by simp [asn, hx], ?_, _, rfl⟩
        have ij : ev P.T X (.ix (.ix (.var 0) (.cst (.int 0))) (.var 1)) [some p.w, some (.int j)] h = .ok (p.fs[j]).w h := by
          refine ev_ix (q0 _) (show ev P.T X (.var 1) _ h = .ok (.int j) h from rfl) ?_
          obtain ⟨y, g1, g2⟩ := atI_nat (xs := p.fs.map Fun.w) (v := (j : Int)) (by omega) (by rw [hl]; omega)
          show atI _ _ = _
          rw [g2, ← g1]
          simp [hj]
        have ok1 : (p.fs[j]).ok = true := List.all_eq_true.mp o2 _ (List.getElem_mem hj)
        rw [run_ife_seq (h' := h) (ev_not (ev_call1 (f := 19) hc ij (by rw [hC]; exact fun_ok N _ (k + 2) h ok1 (by omega))))]
        rfl
    refine ⟨ρ2, ?_⟩
    rw [run_forr hc er]
    exact e2
  obtain ⟨ρ2, lp⟩ := lp
  rw [run_seq lp]
  rfl
end
end Mi
end Py

set_option maxHeartbeats 0
namespace K13
open PySem (Addr Value Obj Expr Pos Stmt Scope Str NameKind)
open Py
abbrev PW : PySem.Program := PySem.Challenge.pw_soundborder_k13_known_designs
def top (i : Nat) : Stmt := PW.main.body.getD i (.Pass ⟨0, 0, 0, 0⟩)
def inTop (i j : Nat) : Stmt := match top i with
  | .ClassDef _ _ _ b _ _ _ _ _ _ _ => b.getD j (.Pass ⟨0, 0, 0, 0⟩)
  | _ => .Pass ⟨0, 0, 0, 0⟩
def d0 : DF := ⟨⟨("is_deep", none), "is_deep", "is_deep", L2.defArgs (top 12), L2.defBody (top 12), L2.defScope (top 12), [], []⟩, ["value", "most"], ["value", "most"], fun _ => false, []⟩ -- is_deep
def d1 : DF := ⟨⟨("is_type", none), "is_type", "is_type", L2.defArgs (top 13), L2.defBody (top 13), L2.defScope (top 13), [], []⟩, ["value"], ["value"], fun _ => false, []⟩ -- is_type
def d2 : DF := ⟨⟨("need_type", none), "need_type", "need_type", L2.defArgs (top 14), L2.defBody (top 14), L2.defScope (top 14), [], []⟩, ["value"], ["value"], fun _ => false, []⟩ -- need_type
def d3 : DF := ⟨⟨("is_design", none), "is_design", "is_design", L2.defArgs (top 15), L2.defBody (top 15), L2.defScope (top 15), [], []⟩, ["value", "one", "index"], ["value"], fun _ => false, []⟩ -- is_design
def d4 : DF := ⟨⟨("need_design", none), "need_design", "need_design", L2.defArgs (top 16), L2.defBody (top 16), L2.defScope (top 16), [], []⟩, ["design"], ["design"], fun _ => false, []⟩ -- need_design
def d5 : DF := ⟨⟨("has", none), "has", "has", L2.defArgs (top 17), L2.defBody (top 17), L2.defScope (top 17), [], []⟩, ["design", "word"], ["design", "word"], fun _ => false, []⟩ -- has
def d6 : DF := ⟨⟨("checks", none), "checks", "checks", L2.defArgs (top 18), L2.defBody (top 18), L2.defScope (top 18), [], []⟩, ["design", "word"], ["design", "word"], fun _ => false, []⟩ -- checks
def d7 : DF := ⟨⟨("is_cell", none), "is_cell", "is_cell", L2.defArgs (top 19), L2.defBody (top 19), L2.defScope (top 19), [], []⟩, ["kind"], ["kind"], fun _ => false, []⟩ -- is_cell
def d8 : DF := ⟨⟨("is_fun", none), "is_fun", "is_fun", L2.defArgs (top 20), L2.defBody (top 20), L2.defScope (top 20), [], []⟩, ["kind"], ["kind"], fun _ => false, []⟩ -- is_fun
def d9 : DF := ⟨⟨("within", none), "within", "within", L2.defArgs (top 21), L2.defBody (top 21), L2.defScope (top 21), [], []⟩, ["design", "one", "other"], ["design", "one", "other"], fun _ => false, []⟩ -- within
def d10 : DF := ⟨⟨("lies_within", none), "lies_within", "lies_within", L2.defArgs (top 22), L2.defBody (top 22), L2.defScope (top 22), [], []⟩, ["design", "one", "other"], ["design", "one", "other"], fun _ => false, []⟩ -- lies_within
def d11 : DF := ⟨⟨("is_integer", none), "is_integer", "is_integer", L2.defArgs (top 24), L2.defBody (top 24), L2.defScope (top 24), [], []⟩, ["value"], ["value"], fun _ => false, []⟩ -- is_integer
def d12 : DF := ⟨⟨("is_in", none), "is_in", "is_in", L2.defArgs (top 25), L2.defBody (top 25), L2.defScope (top 25), [], []⟩, ["value", "least", "most"], ["value", "least", "most"], fun _ => false, []⟩ -- is_in
def d13 : DF := ⟨⟨("is_list", none), "is_list", "is_list", L2.defArgs (top 26), L2.defBody (top 26), L2.defScope (top 26), [], []⟩, ["value", "least", "most"], ["value", "least", "most"], fun _ => false, []⟩ -- is_list
def d14 : DF := ⟨⟨("is_item", none), "is_item", "is_item", L2.defArgs (top 35), L2.defBody (top 35), L2.defScope (top 35), [], []⟩, ["letter", "value"], ["letter", "value"], fun _ => false, []⟩ -- is_item
def d15 : DF := ⟨⟨("is_statement", none), "is_statement", "is_statement", L2.defArgs (top 36), L2.defBody (top 36), L2.defScope (top 36), [], []⟩, ["value", "tests", "shape", "index"], ["value", "tests"], fun _ => false, []⟩ -- is_statement
def d16 : DF := ⟨⟨("is_body", none), "is_body", "is_body", L2.defArgs (top 37), L2.defBody (top 37), L2.defScope (top 37), [], []⟩, ["value", "most", "tests", "one"], ["value", "most", "tests"], fun _ => false, []⟩ -- is_body
def d17 : DF := ⟨⟨("is_function", none), "is_function", "is_function", L2.defArgs (top 38), L2.defBody (top 38), L2.defScope (top 38), [], []⟩, ["value"], ["value"], fun _ => false, []⟩ -- is_function
def d18 : DF := ⟨⟨("need_program", none), "need_program", "need_program", L2.defArgs (top 39), L2.defBody (top 39), L2.defScope (top 39), [], []⟩, ["program", "index"], ["program"], fun _ => false, []⟩ -- need_program
def d19 : DF := ⟨⟨("Checker", some "__init__"), "__init__", "Checker.__init__", L2.defArgs (inTop 42 0), L2.defBody (inTop 42 0), L2.defScope (inTop 42 0), [], []⟩, ["self", "design", "functions", "earlier", "known"], ["self", "design", "functions", "earlier", "known"], fun _ => false, []⟩ -- Checker.__init__
def d20 : DF := ⟨⟨("Checker", some "may_move"), "may_move", "Checker.may_move", L2.defArgs (inTop 42 1), L2.defBody (inTop 42 1), L2.defScope (inTop 42 1), [], []⟩, ["self", "kind"], ["self", "kind"], fun _ => false, []⟩ -- Checker.may_move
def d21 : DF := ⟨⟨("Checker", some "is_known"), "is_known", "Checker.is_known", L2.defArgs (inTop 42 2), L2.defBody (inTop 42 2), L2.defScope (inTop 42 2), [], []⟩, ["self", "names", "name"], ["self", "names"], fun _ => false, []⟩ -- Checker.is_known
def d22 : DF := ⟨⟨("Checker", some "made"), "made", "Checker.made", L2.defArgs (inTop 42 3), L2.defBody (inTop 42 3), L2.defScope (inTop 42 3), [], []⟩, ["self", "statement", "kind", "rest"], ["self", "statement"], fun _ => false, []⟩ -- Checker.made
def d23 : DF := ⟨⟨("Checker", some "formed"), "formed", "Checker.formed", L2.defArgs (inTop 42 4), L2.defBody (inTop 42 4), L2.defScope (inTop 42 4), [], []⟩, ["self", "kind", "rest", "own"], ["self", "kind", "rest", "own"], fun _ => false, []⟩ -- Checker.formed
def d24 : DF := ⟨⟨("Checker", some "function"), "function", "Checker.function", L2.defArgs (inTop 42 5), L2.defBody (inTop 42 5), L2.defScope (inTop 42 5), [], []⟩, ["self", "number"], ["self", "number"], fun _ => false, []⟩ -- Checker.function
def d25 : DF := ⟨⟨("Checker", some "called"), "called", "Checker.called", L2.defArgs (inTop 42 6), L2.defBody (inTop 42 6), L2.defScope (inTop 42 6), [], []⟩, ["self", "number", "name", "argument", "result"], ["self", "number", "name"], fun _ => false, []⟩ -- Checker.called
def d26 : DF := ⟨⟨("Checker", some "used"), "used", "Checker.used", L2.defArgs (inTop 42 7), L2.defBody (inTop 42 7), L2.defScope (inTop 42 7), [], []⟩, ["self", "own", "handed"], ["self", "own", "handed"], fun _ => false, []⟩ -- Checker.used
def d27 : DF := ⟨⟨("Checker", some "can_get"), "can_get", "Checker.can_get", L2.defArgs (inTop 42 8), L2.defBody (inTop 42 8), L2.defScope (inTop 42 8), [], []⟩, ["self", "name", "own", "kind"], ["self", "name", "own", "kind"], fun _ => false, []⟩ -- Checker.can_get
def d28 : DF := ⟨⟨("Checker", some "can_put"), "can_put", "Checker.can_put", L2.defArgs (inTop 42 9), L2.defBody (inTop 42 9), L2.defScope (inTop 42 9), [], []⟩, ["self", "name", "other", "own", "value"], ["self", "name", "other"], fun _ => false, []⟩ -- Checker.can_put
def d29 : DF := ⟨⟨("Checker", some "fault"), "fault", "Checker.fault", L2.defArgs (inTop 42 10), L2.defBody (inTop 42 10), L2.defScope (inTop 42 10), [], []⟩, ["self", "body", "index", "inner"], ["self", "body"], fun _ => false, []⟩ -- Checker.fault
def d30 : DF := ⟨⟨("Checker", some "step"), "step", "Checker.step", L2.defArgs (inTop 42 11), L2.defBody (inTop 42 11), L2.defScope (inTop 42 11), [], []⟩, ["self", "statement", "kind", "good", "made"], ["self", "statement"], fun _ => false, []⟩ -- Checker.step
def d31 : DF := ⟨⟨("Checker", some "tested"), "tested", "Checker.tested", L2.defArgs (inTop 42 12), L2.defBody (inTop 42 12), L2.defScope (inTop 42 12), [], []⟩, ["self", "name", "body", "own", "inner", "fault", "one"], ["self", "name", "body"], fun _ => false, []⟩ -- Checker.tested
def d32 : DF := ⟨⟨("function_fault", none), "function_fault", "function_fault", L2.defArgs (top 43), L2.defBody (top 43), L2.defScope (top 43), [], []⟩, ["design", "functions", "number", "argument", "result", "body", "name", "checker", "fault", "told"], ["design", "functions", "number"], fun _ => false, []⟩ -- function_fault
def d33 : DF := ⟨⟨("body_checker", none), "body_checker", "body_checker", L2.defArgs (top 44), L2.defBody (top 44), L2.defScope (top 44), [], []⟩, ["design", "program", "functions", "checker", "number", "fault"], ["design", "program"], fun _ => false, []⟩ -- body_checker
def d34 : DF := ⟨⟨("is_let_by", none), "is_let_by", "is_let_by", L2.defArgs (top 45), L2.defBody (top 45), L2.defScope (top 45), [], []⟩, ["design", "program"], ["design", "program"], fun _ => false, []⟩ -- is_let_by
def d35 : DF := ⟨⟨("fault", none), "fault", "fault", L2.defArgs (top 46), L2.defBody (top 46), L2.defScope (top 46), [], []⟩, ["design", "program"], ["design", "program"], fun _ => false, []⟩ -- fault
def d36 : DF := ⟨⟨("lets_by", none), "lets_by", "lets_by", L2.defArgs (top 47), L2.defBody (top 47), L2.defScope (top 47), [], []⟩, ["design", "program"], ["design", "program"], fun _ => false, []⟩ -- lets_by
def d37 : DF := ⟨⟨("types", none), "types", "types", L2.defArgs (top 48), L2.defBody (top 48), L2.defScope (top 48), [], []⟩, ["design", "program", "checker", "place", "name"], ["design", "program"], fun _ => false, []⟩ -- types
def d38 : DF := ⟨⟨("holds", none), "holds", "holds", L2.defArgs (top 52), L2.defBody (top 52), L2.defScope (top 52), [], []⟩, ["design", "lot", "word"], ["design", "lot"], fun _ => false, []⟩ -- holds
def d39 : DF := ⟨⟨("lots_held", none), "lots_held", "lots_held", L2.defArgs (top 53), L2.defBody (top 53), L2.defScope (top 53), [], []⟩, ["design", "lot"], ["design"], fun _ => false, []⟩ -- lots_held
def d40 : DF := ⟨⟨("lots_in", none), "lots_in", "lots_in", L2.defArgs (top 54), L2.defBody (top 54), L2.defScope (top 54), [], []⟩, ["design"], ["design"], fun _ => false, []⟩ -- lots_in
def d41 : DF := ⟨⟨("is_sound", none), "is_sound", "is_sound", L2.defArgs (top 55), L2.defBody (top 55), L2.defScope (top 55), [], []⟩, ["design"], ["design"], fun _ => false, []⟩ -- is_sound
def d42 : DF := ⟨⟨("greatest_sound", none), "greatest_sound", "greatest_sound", L2.defArgs (top 56), L2.defBody (top 56), L2.defScope (top 56), [], []⟩, ["design", "one"], ["design"], fun _ => false, []⟩ -- greatest_sound
def d43 : DF := ⟨⟨("fewest_drops", none), "fewest_drops", "fewest_drops", L2.defArgs (top 57), L2.defBody (top 57), L2.defScope (top 57), [], []⟩, ["design", "groups", "word", "group", "many"], ["design"], fun _ => false, []⟩ -- fewest_drops
def d44 : DF := ⟨⟨("strengths_of", none), "strengths_of", "strengths_of", L2.defArgs (top 59), L2.defBody (top 59), L2.defScope (top 59), [], []⟩, ["design", "some", "word"], ["design"], fun _ => false, []⟩ -- strengths_of
def d45 : DF := ⟨⟨("lacking", none), "lacking", "lacking", L2.defArgs (top 60), L2.defBody (top 60), L2.defScope (top 60), [], []⟩, ["one", "other", "own", "word"], ["one", "other"], fun _ => false, []⟩ -- lacking
def d46 : DF := ⟨⟨("strengths", none), "strengths", "strengths", L2.defArgs (top 61), L2.defBody (top 61), L2.defScope (top 61), [], []⟩, ["design"], ["design"], fun _ => false, []⟩ -- strengths
def d47 : DF := ⟨⟨("lets_by_all", none), "lets_by_all", "lets_by_all", L2.defArgs (top 62), L2.defBody (top 62), L2.defScope (top 62), [], []⟩, ["one", "other"], ["one", "other"], fun _ => false, []⟩ -- lets_by_all
def d48 : DF := ⟨⟨("checked", none), "checked", "checked", L2.defArgs (top 63), L2.defBody (top 63), L2.defScope (top 63), [], []⟩, ["design", "word"], ["design"], fun _ => false, []⟩ -- checked
def d49 : DF := ⟨⟨("Nothing", some "__init__"), "__init__", "Nothing.__init__", L2.defArgs (inTop 67 0), L2.defBody (inTop 67 0), L2.defScope (inTop 67 0), [], []⟩, ["self"], ["self"], fun _ => false, []⟩ -- Nothing.__init__
def d50 : DF := ⟨⟨("Record", some "__init__"), "__init__", "Record.__init__", L2.defArgs (inTop 68 0), L2.defBody (inTop 68 0), L2.defScope (inTop 68 0), [], []⟩, ["self", "fields"], ["self", "fields"], fun _ => false, []⟩ -- Record.__init__
def d51 : DF := ⟨⟨("Cell", some "__init__"), "__init__", "Cell.__init__", L2.defArgs (inTop 69 0), L2.defBody (inTop 69 0), L2.defScope (inTop 69 0), [], []⟩, ["self", "born", "content"], ["self", "born", "content"], fun _ => false, []⟩ -- Cell.__init__
def d52 : DF := ⟨⟨("Function", some "__init__"), "__init__", "Function.__init__", L2.defArgs (inTop 70 0), L2.defBody (inTop 70 0), L2.defScope (inTop 70 0), [], []⟩, ["self", "number", "kind"], ["self", "number", "kind"], fun _ => false, []⟩ -- Function.__init__
def d53 : DF := ⟨⟨("sort_of", none), "sort_of", "sort_of", L2.defArgs (top 71), L2.defBody (top 71), L2.defScope (top 71), [], []⟩, ["value"], ["value"], fun _ => false, []⟩ -- sort_of
def d54 : DF := ⟨⟨("Runner", some "__init__"), "__init__", "Runner.__init__", L2.defArgs (inTop 72 0), L2.defBody (inTop 72 0), L2.defScope (inTop 72 0), [], []⟩, ["self", "design", "program"], ["self", "design", "program"], fun p => (p.line == 332 && p.col == 82), []⟩ -- Runner.__init__
def d55 : DF := ⟨⟨("Runner", some "fits"), "fits", "Runner.fits", L2.defArgs (inTop 72 1), L2.defBody (inTop 72 1), L2.defScope (inTop 72 1), [], []⟩, ["self", "value", "kind", "sort"], ["self", "value", "kind"], fun _ => false, []⟩ -- Runner.fits
def d56 : DF := ⟨⟨("Runner", some "used"), "used", "Runner.used", L2.defArgs (inTop 72 2), L2.defBody (inTop 72 2), L2.defScope (inTop 72 2), [], []⟩, ["self", "value", "sort"], ["self", "value", "sort"], fun _ => false, []⟩ -- Runner.used
def d57 : DF := ⟨⟨("Runner", some "look"), "look", "Runner.look", L2.defArgs (inTop 72 3), L2.defBody (inTop 72 3), L2.defScope (inTop 72 3), [], []⟩, ["self", "word", "value", "kind"], ["self", "word", "value", "kind"], fun _ => false, []⟩ -- Runner.look
def d58 : DF := ⟨⟨("Runner", some "called"), "called", "Runner.called", L2.defArgs (inTop 72 4), L2.defBody (inTop 72 4), L2.defScope (inTop 72 4), [], []⟩, ["self", "number", "value", "argument", "result", "body", "name", "scope"], ["self", "number", "value"], fun _ => false, []⟩ -- Runner.called
def d59 : DF := ⟨⟨("Scope", some "__init__"), "__init__", "Scope.__init__", L2.defArgs (inTop 73 0), L2.defBody (inTop 73 0), L2.defScope (inTop 73 0), [], []⟩, ["self", "runner", "earlier", "bound", "kinds"], ["self", "runner", "earlier", "bound", "kinds"], fun _ => false, []⟩ -- Scope.__init__
def d60 : DF := ⟨⟨("Scope", some "run"), "run", "Scope.run", L2.defArgs (inTop 73 1), L2.defBody (inTop 73 1), L2.defScope (inTop 73 1), [], []⟩, ["self", "body", "statement", "cell", "value"], ["self", "body"], fun _ => false, []⟩ -- Scope.run
def d61 : DF := ⟨⟨("Scope", some "kind"), "kind", "Scope.kind", L2.defArgs (inTop 73 2), L2.defBody (inTop 73 2), L2.defScope (inTop 73 2), [], []⟩, ["self", "statement"], ["self", "statement"], fun _ => false, []⟩ -- Scope.kind
def d62 : DF := ⟨⟨("Scope", some "made"), "made", "Scope.made", L2.defArgs (inTop 73 3), L2.defBody (inTop 73 3), L2.defScope (inTop 73 3), [], []⟩, ["self", "kind", "rest", "runner", "bound", "number"], ["self", "kind", "rest"], fun _ => false, []⟩ -- Scope.made
def d63 : DF := ⟨⟨("Scope", some "found"), "found", "Scope.found", L2.defArgs (inTop 73 4), L2.defBody (inTop 73 4), L2.defScope (inTop 73 4), [], []⟩, ["self", "kind", "rest", "own", "runner", "content", "fields", "function"], ["self", "kind", "rest", "own"], fun _ => false, []⟩ -- Scope.found
def d64 : DF := ⟨⟨("Scope", some "test"), "test", "Scope.test", L2.defArgs (inTop 73 5), L2.defBody (inTop 73 5), L2.defScope (inTop 73 5), [], []⟩, ["self", "name", "body", "content", "inner"], ["self", "name", "body"], fun _ => false, []⟩ -- Scope.test
def d65 : DF := ⟨⟨("run_in", none), "run_in", "run_in", L2.defArgs (top 74), L2.defBody (top 74), L2.defScope (top 74), [], []⟩, ["design", "program", "runner", "how", "why", "stop"], ["design", "program"], fun _ => false, ["stop"]⟩ -- run_in
def d66 : DF := ⟨⟨("run", none), "run", "run", L2.defArgs (top 75), L2.defBody (top 75), L2.defScope (top 75), [], []⟩, ["design", "program"], ["design", "program"], fun _ => false, []⟩ -- run
def d67 : DF := ⟨⟨("type_text", none), "type_text", "type_text", L2.defArgs (top 77), L2.defBody (top 77), L2.defScope (top 77), [], []⟩, ["kind"], ["kind"], fun _ => false, []⟩ -- type_text
def d68 : DF := ⟨⟨("item_text", none), "item_text", "item_text", L2.defArgs (top 78), L2.defBody (top 78), L2.defScope (top 78), [], []⟩, ["item"], ["item"], fun _ => false, []⟩ -- item_text
def d69 : DF := ⟨⟨("body_lines", none), "body_lines", "body_lines", L2.defArgs (top 79), L2.defBody (top 79), L2.defScope (top 79), [], []⟩, ["body", "lines", "statement", "item"], ["body"], fun p => (p.line == 459 && p.col == 12), []⟩ -- body_lines
def d70 : DF := ⟨⟨("write_program", none), "write_program", "write_program", L2.defArgs (top 80), L2.defBody (top 80), L2.defScope (top 80), [], []⟩, ["program", "lines", "argument", "result", "body", "name"], ["program"], fun p => (p.line == 470 && p.col == 12), []⟩ -- write_program
def d71 : DF := ⟨⟨("_law_taken", none), "_law_taken", "_law_taken", L2.defArgs (top 82), L2.defBody (top 82), L2.defScope (top 82), [], []⟩, ["_law_row", "_law_many", "_law_found", "_law_cell"], ["_law_row", "_law_many"], fun _ => false, []⟩ -- _law_taken
def d72 : DF := ⟨⟨("law", none), "law", "law", L2.defArgs (top 83), L2.defBody (top 83), L2.defScope (top 83), [], []⟩, ["_law_script", "_law_row", "_law_n", "_law_m", "_law_program", "_law_setter", "_law_body", "_law_held", "_law_inner"], ["_law_script"], fun p => (p.line == 492 && p.col == 15), []⟩ -- law
def tab0 : List (Str × Gk) := [("ANY", .con (.tup [(.str "cell"), (.str "any")])), ("BadDesign", .xc 2 true), ("BadProgram", .xc 3 false), ("BadType", .xc 1 true), ("Cell", .cl 3 42 3), ("Checker", .cl 0 21 5), ("DOUBLE", .con (.tup [(.str "along"), (.str "args"), (.str "cast"), (.str "none")])), ("Function", .cl 4 43 3), ("LOTS", .con (.tup [(.tup [(.str "against")]), (.tup [(.str "along"), (.str "put")]), (.tup [(.str "args")]), (.tup [(.str "blank"), (.str "put")]), (.tup [(.str "calls"), (.str "keep"), (.str "put")]), (.tup [(.str "cast")]), (.tup [(.str "keep"), (.str "put"), (.str "share")]), (.tup [(.str "none")])])), ("MOST_BODY", .con (.int 15)), ("MOST_DEEP", .con (.int 3)), ("MOST_FUNCTIONS", .con (.int 3)), ("MOST_INNER", .con (.int 8)), ("MOST_NAME", .con (.int 40)), ("MOST_NUMBER", .con (.int 99)), ("MOST_TESTS", .con (.int 2))]
def tab1 : List (Str × Gk) := [("MOST_WITHIN", .con (.int 30)), ("NotMade", .xc 4 true), ("Nothing", .cl 1 40 1), ("PLAIN", .con (.tup [(.str "num"), (.str "small"), (.str "big")])), ("RECORDS", .con (.tup [(.str "small"), (.str "big")])), ("Record", .cl 2 41 2), ("Runner", .cl 5 45 3), ("SHAPES", .dic [("num", (.str "xn")), ("small", (.str "xn")), ("big", (.str "xnn")), ("none", (.str "xt")), ("name", (.str "xyt")), ("cell", (.str "xy")), ("blank", (.str "x")), ("get", (.str "xyt")), ("put", (.str "yy")), ("field", (.str "xyw")), ("cast", (.str "xy")), ("fun", (.str "xf")), ("call", (.str "xfy")), ("use", (.str "xyy")), ("show", (.str "y"))]), ("SOUND", .con (.tup [(.tup [(.str "along"), (.str "along checked"), (.str "args checked"), (.str "blank"), (.str "calls"), (.str "cast checked"), (.str "keep"), (.str "none checked"), (.str "share")]), (.tup [(.str "along checked"), (.str "args checked"), (.str "calls"), (.str "cast checked"), (.str "none checked"), (.str "put"), (.str "share")]), (.tup [(.str "along checked"), (.str "args checked"), (.str "cast checked"), (.str "keep"), (.str "none checked"), (.str "put")])])), ("Scope", .cl 6 50 5), ("Stopped", .xc 5 false), ("WORDS", .con (.tup [(.str "against"), (.str "along"), (.str "along checked"), (.str "args"), (.str "args checked"), (.str "blank"), (.str "calls"), (.str "cast"), (.str "cast checked"), (.str "keep"), (.str "none"), (.str "none checked"), (.str "put"), (.str "share")])), ("_law_taken", .df 58 2), ("all", .free), ("body_checker", .df 35 2), ("body_lines", .df 114 1)]
def tab2 : List (Str × Gk) := [("bool", .free), ("checked", .df 108 1), ("checks", .df 6 2), ("dict", .free), ("fault", .df 37 2), ("fewest_drops", .df 111 1), ("function_fault", .df 34 3), ("greatest_sound", .df 110 1), ("has", .df 5 2), ("holds", .df 10 2), ("int", .free), ("is_body", .df 18 3), ("is_cell", .df 7 1), ("is_deep", .df 1 2), ("is_design", .df 3 1), ("is_fun", .df 8 1)]
def tab3 : List (Str × Gk) := [("is_function", .df 19 1), ("is_in", .df 14 3), ("is_integer", .df 13 1), ("is_item", .df 16 2), ("is_let_by", .df 36 2), ("is_list", .df 15 3), ("is_sound", .df 12 1), ("is_statement", .df 17 2), ("is_type", .df 2 1), ("isinstance", .free), ("item_text", .df 113 1), ("lacking", .df 103 2), ("len", .free), ("lets_by", .df 38 2), ("lets_by_all", .df 105 2), ("lies_within", .df 99 3)]
def tab4 : List (Str × Gk) := [("lots_held", .df 11 1), ("lots_in", .df 89 1), ("need_design", .df 4 1), ("need_program", .df 20 1), ("need_type", .df 98 1), ("range", .free), ("run", .df 57 2), ("run_in", .df 56 2), ("set", .free), ("sort_of", .df 44 1), ("sorted", .free), ("str", .free), ("strengths", .df 104 1), ("strengths_of", .df 102 1), ("tuple", .free), ("type_text", .df 112 1)]
def tab5 : List (Str × Gk) := [("types", .df 94 2), ("within", .df 9 3), ("write_program", .df 116 1), ("law", .df 86 1)]
def tab : List (Str × Gk) := tab0 ++ tab1 ++ tab2 ++ tab3 ++ tab4 ++ tab5
def dfs0 : List DF := [d0, d1, d2, d3, d4, d5, d6, d7, d8, d9, d10, d11, d12, d13, d14, d15, d16, d17, d18, d19, d20, d21, d22, d23, d24, d25, d26, d27, d28, d29]
def dfs1 : List DF := [d30, d31, d32, d33, d34, d35, d36, d37, d38, d39, d40, d41, d42, d43, d44, d45, d46, d47, d48, d49, d50, d51, d52, d53, d54, d55, d56, d57, d58, d59]
def dfs2 : List DF := [d60, d61, d62, d63, d64, d65, d66, d67, d68, d69, d70, d71, d72]
def dfs : List DF := dfs0 ++ dfs1 ++ dfs2
def ids0 : List Nat := [1, 2, 98, 3, 4, 5, 6, 7, 8, 9, 99, 13, 14, 15, 16, 17, 18, 19, 20, 21, 22, 23, 24, 25, 26, 27, 28, 29, 30, 31, 32, 33, 34, 35, 36, 37, 38, 94, 10, 11, 89, 12, 110, 111, 102, 103, 104, 105, 108, 40, 41, 42, 43, 44, 45, 46, 47, 48, 49, 50]
def ids1 : List Nat := [51, 52, 53, 54, 55, 56, 57, 112, 113, 114, 116, 58, 86]
def ids : List Nat := ids0 ++ ids1
def fns0 : List Str := ["held", "functions", "earlier", "known", "large", "family", "fields", "born", "content", "number", "kind", "shown", "within", "runner", "bound", "checker", "how", "why", "part", "line", "lines", "at", "_design", "_program", "_past"]
def fns : List Str := fns0
def mts0 : List (Str × Nat) := [("may_move", 2), ("is_known", 2), ("made", 2), ("formed", 4), ("function", 2), ("called", 3), ("used", 3), ("can_get", 4), ("can_put", 3), ("fault", 2), ("step", 2), ("tested", 3), ("fits", 3), ("look", 4), ("run", 2)]
def mts1 : List (Str × Nat) := [("kind", 2), ("made", 3), ("found", 4), ("test", 3), ("refuse", 1), ("line", 1), ("body", 4), ("is_end", 2), ("function", 1), ("program", 1), ("_told", 1), ("_answer", 2), ("undo", 1)]
def mts : List (Str × Nat) := mts0 ++ mts1
def R : PR := { ids := ids, dfs := dfs, tab := tab, fns := fns, mts := mts, cls := [⟨"Checker", [0, 1, 2, 3, 4], some 21, [(0, 22), (1, 23), (2, 24), (3, 25), (4, 26), (5, 27), (6, 28), (7, 29), (8, 30), (9, 31), (10, 32), (11, 33)]⟩, ⟨"Nothing", [5], some 40, []⟩, ⟨"Record", [5, 6], some 41, []⟩, ⟨"Cell", [5, 7, 8], some 42, []⟩, ⟨"Function", [5, 9, 10], some 43, []⟩, ⟨"Runner", [0, 1, 11, 12], some 45, [(12, 46), (6, 47), (13, 48), (5, 49)]⟩, ⟨"Scope", [15, 13, 14], some 50, [(14, 51), (15, 52), (16, 53), (17, 54), (18, 55)]⟩], xcs := [⟨"BorderError", true, [0], none⟩, ⟨"BadType", true, [0, 1], none⟩, ⟨"BadDesign", true, [0, 2], none⟩, ⟨"BadProgram", false, [0, 3], none⟩, ⟨"NotMade", true, [0, 4], none⟩, ⟨"Stopped", false, [0, 5], some (["self", "how", "why"], "why", [("how", "how"), ("why", "why")])⟩], file := PW.main.file }
def loose0 : List Str := ["__name__", "BorderError", "BadType", "BadDesign", "BadProgram", "NotMade", "WORDS", "DOUBLE", "PLAIN", "ANY", "MOST_DEEP", "is_deep", "is_type", "need_type", "is_design", "need_design", "has", "checks", "is_cell", "is_fun", "within", "lies_within", "is_integer", "is_in", "is_list", "MOST_NAME", "MOST_NUMBER", "MOST_FUNCTIONS", "MOST_BODY", "MOST_INNER"]
def loose1 : List Str := ["MOST_TESTS", "SHAPES", "is_item", "is_statement", "is_body", "is_function", "need_program", "RECORDS", "Checker", "function_fault", "body_checker", "is_let_by", "fault", "lets_by", "types", "LOTS", "SOUND", "holds", "lots_held", "lots_in", "is_sound", "greatest_sound", "fewest_drops", "strengths_of", "lacking", "strengths", "lets_by_all", "checked", "MOST_WITHIN", "Stopped"]
def loose2 : List Str := ["Nothing", "Record", "Cell", "Function", "sort_of", "Runner", "Scope", "run_in", "run", "type_text", "item_text", "body_lines", "write_program", "_law_taken"]
def loose : List Str := loose0 ++ loose1 ++ loose2
-- law at 83 of 84; def number 86
theorem bnds : Fal Bnd R.dfs :=
  .cons (fun _ _ _ _ _ _ us hl => match us, hl with | [_, _], _ => rfl) <| .cons (fun _ _ _ _ _ _ us hl => match us, hl with | [_], _ => rfl) <| .cons (fun _ _ _ _ _ _ us hl => match us, hl with | [_], _ => rfl) <| .cons (fun _ _ _ _ _ _ us hl => match us, hl with | [_], _ => rfl) <| .cons (fun _ _ _ _ _ _ us hl => match us, hl with | [_], _ => rfl) <| .cons (fun _ _ _ _ _ _ us hl => match us, hl with | [_, _], _ => rfl) <| .cons (fun _ _ _ _ _ _ us hl => match us, hl with | [_, _], _ => rfl) <| .cons (fun _ _ _ _ _ _ us hl => match us, hl with | [_], _ => rfl) <| .cons (fun _ _ _ _ _ _ us hl => match us, hl with | [_], _ => rfl) <| .cons (fun _ _ _ _ _ _ us hl => match us, hl with | [_, _, _], _ => rfl) <| .cons (fun _ _ _ _ _ _ us hl => match us, hl with | [_, _, _], _ => rfl) <| .cons (fun _ _ _ _ _ _ us hl => match us, hl with | [_], _ => rfl) <| .cons (fun _ _ _ _ _ _ us hl => match us, hl with | [_, _, _], _ => rfl) <| .cons (fun _ _ _ _ _ _ us hl => match us, hl with | [_, _, _], _ => rfl) <| .cons (fun _ _ _ _ _ _ us hl => match us, hl with | [_, _], _ => rfl) <| .cons (fun _ _ _ _ _ _ us hl => match us, hl with | [_, _], _ => rfl) <| .cons (fun _ _ _ _ _ _ us hl => match us, hl with | [_, _, _], _ => rfl) <| .cons (fun _ _ _ _ _ _ us hl => match us, hl with | [_], _ => rfl) <| .cons (fun _ _ _ _ _ _ us hl => match us, hl with | [_], _ => rfl) <| .cons (fun _ _ _ _ _ _ us hl => match us, hl with | [_, _, _, _, _], _ => rfl) <| .cons (fun _ _ _ _ _ _ us hl => match us, hl with | [_, _], _ => rfl) <| .cons (fun _ _ _ _ _ _ us hl => match us, hl with | [_, _], _ => rfl) <| .cons (fun _ _ _ _ _ _ us hl => match us, hl with | [_, _], _ => rfl) <| .cons (fun _ _ _ _ _ _ us hl => match us, hl with | [_, _, _, _], _ => rfl) <| .cons (fun _ _ _ _ _ _ us hl => match us, hl with | [_, _], _ => rfl) <| .cons (fun _ _ _ _ _ _ us hl => match us, hl with | [_, _, _], _ => rfl) <| .cons (fun _ _ _ _ _ _ us hl => match us, hl with | [_, _, _], _ => rfl) <| .cons (fun _ _ _ _ _ _ us hl => match us, hl with | [_, _, _, _], _ => rfl) <| .cons (fun _ _ _ _ _ _ us hl => match us, hl with | [_, _, _], _ => rfl) <| .cons (fun _ _ _ _ _ _ us hl => match us, hl with | [_, _], _ => rfl) <| .cons (fun _ _ _ _ _ _ us hl => match us, hl with | [_, _], _ => rfl) <| .cons (fun _ _ _ _ _ _ us hl => match us, hl with | [_, _, _], _ => rfl) <| .cons (fun _ _ _ _ _ _ us hl => match us, hl with | [_, _, _], _ => rfl) <| .cons (fun _ _ _ _ _ _ us hl => match us, hl with | [_, _], _ => rfl) <| .cons (fun _ _ _ _ _ _ us hl => match us, hl with | [_, _], _ => rfl) <| .cons (fun _ _ _ _ _ _ us hl => match us, hl with | [_, _], _ => rfl) <| .cons (fun _ _ _ _ _ _ us hl => match us, hl with | [_, _], _ => rfl) <| .cons (fun _ _ _ _ _ _ us hl => match us, hl with | [_, _], _ => rfl) <| .cons (fun _ _ _ _ _ _ us hl => match us, hl with | [_, _], _ => rfl) <| .cons (fun _ _ _ _ _ _ us hl => match us, hl with | [_], _ => rfl) <| .cons (fun _ _ _ _ _ _ us hl => match us, hl with | [_], _ => rfl) <| .cons (fun _ _ _ _ _ _ us hl => match us, hl with | [_], _ => rfl) <| .cons (fun _ _ _ _ _ _ us hl => match us, hl with | [_], _ => rfl) <| .cons (fun _ _ _ _ _ _ us hl => match us, hl with | [_], _ => rfl) <| .cons (fun _ _ _ _ _ _ us hl => match us, hl with | [_], _ => rfl) <| .cons (fun _ _ _ _ _ _ us hl => match us, hl with | [_, _], _ => rfl) <| .cons (fun _ _ _ _ _ _ us hl => match us, hl with | [_], _ => rfl) <| .cons (fun _ _ _ _ _ _ us hl => match us, hl with | [_, _], _ => rfl) <| .cons (fun _ _ _ _ _ _ us hl => match us, hl with | [_], _ => rfl) <| .cons (fun _ _ _ _ _ _ us hl => match us, hl with | [_], _ => rfl) <| .cons (fun _ _ _ _ _ _ us hl => match us, hl with | [_, _], _ => rfl) <| .cons (fun _ _ _ _ _ _ us hl => match us, hl with | [_, _, _], _ => rfl) <| .cons (fun _ _ _ _ _ _ us hl => match us, hl with | [_, _, _], _ => rfl) <| .cons (fun _ _ _ _ _ _ us hl => match us, hl with | [_], _ => rfl) <| .cons (fun _ _ _ _ _ _ us hl => match us, hl with | [_, _, _], _ => rfl) <| .cons (fun _ _ _ _ _ _ us hl => match us, hl with | [_, _, _], _ => rfl) <| .cons (fun _ _ _ _ _ _ us hl => match us, hl with | [_, _, _], _ => rfl) <| .cons (fun _ _ _ _ _ _ us hl => match us, hl with | [_, _, _, _], _ => rfl) <| .cons (fun _ _ _ _ _ _ us hl => match us, hl with | [_, _, _], _ => rfl) <| .cons (fun _ _ _ _ _ _ us hl => match us, hl with | [_, _, _, _, _], _ => rfl) <| .cons (fun _ _ _ _ _ _ us hl => match us, hl with | [_, _], _ => rfl) <| .cons (fun _ _ _ _ _ _ us hl => match us, hl with | [_, _], _ => rfl) <| .cons (fun _ _ _ _ _ _ us hl => match us, hl with | [_, _, _], _ => rfl) <| .cons (fun _ _ _ _ _ _ us hl => match us, hl with | [_, _, _, _], _ => rfl) <| .cons (fun _ _ _ _ _ _ us hl => match us, hl with | [_, _, _], _ => rfl) <| .cons (fun _ _ _ _ _ _ us hl => match us, hl with | [_, _], _ => rfl) <| .cons (fun _ _ _ _ _ _ us hl => match us, hl with | [_, _], _ => rfl) <| .cons (fun _ _ _ _ _ _ us hl => match us, hl with | [_], _ => rfl) <| .cons (fun _ _ _ _ _ _ us hl => match us, hl with | [_], _ => rfl) <| .cons (fun _ _ _ _ _ _ us hl => match us, hl with | [_], _ => rfl) <| .cons (fun _ _ _ _ _ _ us hl => match us, hl with | [_], _ => rfl) <| .cons (fun _ _ _ _ _ _ us hl => match us, hl with | [_, _], _ => rfl) <| .cons (fun _ _ _ _ _ _ us hl => match us, hl with | [_], _ => rfl) <| .nil
/-- the addresses that the head looks at -/
def al : List Nat := [2, 3, 6, 4, 24, 37, 49, 70, 82, 85, 86, 87, 88, 95, 102, 109, 114, 121, 128, 135, 142, 149, 156, 163, 170, 177, 184, 185, 192, 197, 202, 209, 216, 217, 314, 325, 332, 339, 346, 353, 358, 367, 371, 376, 381, 388, 395, 400, 405, 410, 415, 422, 429, 434, 453, 472, 493, 514, 535, 546, 591, 645, 656, 663, 670, 677, 682, 689, 696, 703, 0, 23, 36, 48, 69, 81, 94, 101, 108, 113, 120, 127, 134, 141, 148, 155, 162, 169, 176, 183, 191, 196, 201, 208, 215, 313, 324, 331, 338, 345, 352, 357, 359, 360, 361, 362, 363, 364, 365, 366, 368, 369, 370, 375, 380, 387, 394, 399, 404, 409, 414, 421, 428, 433, 452, 471, 492, 513, 534, 545, 590, 644, 655, 662, 669, 676, 681, 688, 695, 702, 22, 25, 35, 47, 67, 68, 80, 89, 90, 91, 92, 93, 96, 97, 98, 99, 100, 103, 104, 105, 106, 107, 110, 111, 112, 115, 116, 117, 118, 119, 122, 123, 124, 125, 126, 129, 130, 131, 132, 133, 136, 137, 138, 139, 140, 143, 144, 145, 146, 147, 150, 151, 152, 153, 154, 157, 158, 159, 160, 161, 164, 165, 166, 167, 168, 171, 172, 173, 174, 175, 178, 179, 180, 181, 182, 186, 187, 188, 189, 190, 193, 194, 195, 198, 199, 200, 203, 204, 205, 206, 207, 210, 211, 212, 213, 214, 231, 238, 243, 250, 257, 264, 271, 278, 285, 292, 299, 306, 311, 312, 315, 316, 319, 320, 321, 322, 323, 326, 327, 328, 329, 330, 333, 334, 335, 336, 337, 340, 341, 342, 343, 344, 347, 348, 349, 350, 351, 354, 355, 356, 372, 373, 374, 377, 378, 379, 382, 383, 384, 385, 386, 389, 390, 391, 392, 393, 396, 397, 398, 401, 402, 403, 406, 407, 408, 411, 412, 413, 416, 417, 418, 419, 420, 423, 424, 425, 426, 427, 430, 431, 432, 450, 451, 469, 470, 473, 474, 490, 491, 494, 495, 511, 512, 515, 516, 532, 533, 536, 537, 540, 541, 542, 543, 544, 560, 567, 574, 581, 588, 589, 592, 593, 609, 616, 623, 628, 635, 642, 643, 646, 647, 650, 651, 652, 653, 654, 657, 658, 659, 660, 661, 664, 665, 666, 667, 668, 671, 672, 673, 674, 675, 678, 679, 680, 683, 684, 685, 686, 687, 690, 691, 692, 693, 694, 697, 698, 699, 700, 701, 66, 55, 230, 237, 242, 249, 256, 263, 270, 277, 284, 291, 298, 305, 310, 449, 438, 468, 489, 510, 531, 559, 566, 573, 580, 587, 608, 615, 622, 627, 634, 641, 61, 62, 63, 64, 65, 225, 226, 227, 228, 229, 232, 233, 234, 235, 236, 239, 240, 241, 244, 245, 246, 247, 248, 251, 252, 253, 254, 255, 258, 259, 260, 261, 262, 265, 266, 267, 268, 269, 272, 273, 274, 275, 276, 279, 280, 281, 282, 283, 286, 287, 288, 289, 290, 293, 294, 295, 296, 297, 300, 301, 302, 303, 304, 307, 308, 309, 444, 445, 446, 447, 448, 463, 464, 465, 466, 467, 484, 485, 486, 487, 488, 505, 506, 507, 508, 509, 526, 527, 528, 529, 530, 554, 555, 556, 557, 558, 561, 562, 563, 564, 565, 568, 569, 570, 571, 572, 575, 576, 577, 578, 579, 582, 583, 584, 585, 586, 603, 604, 605, 606, 607, 610, 611, 612, 613, 614, 617, 618, 619, 620, 621, 624, 625, 626, 629, 630, 631, 632, 633, 636, 637, 638, 639, 640]
theorem ok : R.ok = true := by decide +kernel
abbrev RR : PySem.W.OpenRow := PySem.W.OpenLaw.row PySem.Challenge.rw_soundborder_k13_known_designs
abbrev hk : PySem.W.Hook := hookZ al R.fa R.fn R.ts R.ex
def ob (s : PySem.W.SharedT) : He.AlX := obsZ al R.fa R.fn R.ts R.ex (HandSHeadRun.getT s)
theorem ob_eq (s : PySem.W.SharedT) : ob s = hk.obs s.abs := obsZ_eq (HandSHeadRun.getT_eq s)
theorem prog : PyX.progB (PySem.Challenge.rw_soundborder_k13_known_designs).prog R.file = true := by kernel_rfl
abbrev Q : PySem.Program := PySem.W.view RR.prog [83]
theorem runS0 (w : PySem.World) : RunS RR Q 20000 loose (w.withFollow "special-get-raises" false) := by
  intro os; kernel_rfl
theorem runS1 (w : PySem.World) : RunS RR Q 20000 loose (w.withFollow "special-get-raises" true) := by
  intro os; kernel_rfl
theorem runP_0 (w : PySem.World) : RunP RR al 20000 R.fa R.fn R.ts R.ex (w.withFollow "special-get-raises" false) := by
  intro os; kernel_rfl
theorem runP_1 (w : PySem.World) : RunP RR al 20000 R.fa R.fn R.ts R.ex (w.withFollow "special-get-raises" true) := by
  intro os; kernel_rfl
theorem run (w : PySem.World) : HandSHeadRun.RunEq RR Q hk ob 20000 loose w :=
  runEq_of ((runS0 w).both "special-get-raises" (runS1 w)) ((runP_0 w).both "special-get-raises" (runP_1 w))
end K13
open PySem PySem.W PySem.Calls PyProof.Rows in
theorem K13.holds_of {n : Nat} (hn : n + 2 ≤ 200) (hlaw : ∀ ns : List Int, ns.length ≤ 63 → ∃ h', Py.call K13.R.pd.pg n 86 [.scr ns] [] = .ok (.bl true) h') : PySem.Challenge.rw_soundborder_k13_known_designs.Holds := by
  w_on; o_law
  refine HandSHeadRun.head_any (r := OpenLaw.row PySem.Challenge.rw_soundborder_k13_known_designs) (q := view (OpenLaw.row PySem.Challenge.rw_soundborder_k13_known_designs).prog [83]) (H := K13.hk) (ob := K13.ob) (M := 20000) (loose := K13.loose) (d := HandSHeadRun.topDef (OpenLaw.row PySem.Challenge.rw_soundborder_k13_known_designs).prog 83) (kwd := []) K13.ob_eq
    (by kernel_rfl) (fun s => by kernel_rfl) K13.run (by kernel_rfl) (by kernel_rfl) (by kernel_rfl) (by rfl) (by first | assumption | decide +kernel) (by decide +kernel) ⟨rfl, rfl, rfl, rfl, rfl, by decide +kernel⟩ ?hw ?hc
  case hw => w_witness2
  case hc =>
    refine Py.walk_w (l := PySem.Challenge.rw_soundborder_k13_known_designs) (n := 63) (k := n + 2) (x := "_law_script") (CX := fun w => L2N.CX (PySem.Challenge.rw_soundborder_k13_known_designs).prog w) rfl (by decide) (by kernel_rfl) (Py.room_of hn) ?F (fun w H s e s' h => Py.cx_no h)
    intro w mg fa h Y G hmg0
    obtain ⟨K, KX, c⟩ := Y
    have hmg : mg ("law" : PySem.Str) = some (.ref fa) := by
      have e : (HandSHeadRun.topDef (OpenLaw.row PySem.Challenge.rw_soundborder_k13_known_designs).prog 83).name = ("law" : PySem.Str) := by kernel_rfl
      rw [← e]
      exact hmg0
    obtain ⟨fd, sp, hb, hS, hF⟩ := Py.law_fn (Pr := (PySem.Challenge.rw_soundborder_k13_known_designs).prog) (w := w) (f := 86) (D := K13.d72) (x := "_law_script") K13.ok K13.bnds KX G c.t.d c.more K13.prog (He.tab_all c.t) rfl rfl (by kernel_rfl) hmg hlaw
    exact ⟨K, fd, sp, KX, hb, hS, hF⟩

set_option maxHeartbeats 8000000
namespace K13
open Py Py.Mi
abbrev PG : Pg := R.pd.pg
theorem np : NP PG := ⟨by kernel_rfl, by kernel_rfl, by kernel_rfl, by kernel_rfl, by kernel_rfl, by kernel_rfl, by kernel_rfl, by kernel_rfl, by kernel_rfl, by kernel_rfl⟩
def b37 : Py.St := (.seq (.exp (.call 4 (.cons (.var 0) .nil)))
  (.seq (.exp (.call 20 (.cons (.var 1) .nil)))
  (.seq (.ret (.ix (.call 35 (.cons (.var 0) (.cons (.var 1) .nil))) (.cst (.int 1))))
  .skip)))
theorem f37 : PG.fn 37 = some (2, 2, b37) := by kernel_rfl
def b38 : Py.St := (.seq (.ret (.isc (.call 37 (.cons (.var 0) (.cons (.var 1) .nil))) .non))
  .skip)
theorem f38 : PG.fn 38 = some (2, 2, b38) := by kernel_rfl
def b57 : Py.St := (.seq (.exp (.call 4 (.cons (.var 0) .nil)))
  (.seq (.exp (.call 20 (.cons (.var 1) .nil)))
  (.seq (.ife (.not (.call 36 (.cons (.var 0) (.cons (.var 1) .nil)))) (.seq (.rai 4 .nil)
  .skip) .skip)
  (.seq (.ret (.call 56 (.cons (.var 0) (.cons (.var 1) .nil))))
  .skip))))
theorem f57 : PG.fn 57 = some (2, 2, b57) := by kernel_rfl
def b94 : Py.St := (.seq (.exp (.call 4 (.cons (.var 0) .nil)))
  (.seq (.exp (.call 20 (.cons (.var 1) .nil)))
  (.seq (.asg (.tup (.cons (.nm 2) (.cons (.nm 3) .nil))) (.call 35 (.cons (.var 0) (.cons (.var 1) .nil))))
  (.seq (.ife (.not (.isc (.var 3) .non)) (.seq (.rai 4 .nil)
  .skip) .skip)
  (.seq (.ret (.bi .tuple (.cons (.comp 4 [4] (.its (.bi .sorted (.cons (.fld (.var 2) 3) .nil))) .yes (.tup (.cons (.var 4) (.cons (.ix (.fld (.var 2) 3) (.var 4)) .nil)))) .nil)))
  .skip)))))
theorem f94 : PG.fn 94 = some (2, 5, b94) := by kernel_rfl
def r57 : Py.St := (.seq (.ife (.not (.call 36 (.cons (.var 0) (.cons (.var 1) .nil)))) (.seq (.rai 4 .nil)
  .skip) .skip)
  (.seq (.ret (.call 56 (.cons (.var 0) (.cons (.var 1) .nil))))
  .skip))
theorem run_go {d : W} (p : Prog) (k : Nat) (h : MH) (o : p.ok = true) (hk : 16 ≤ k) (hd : call PG k 4 [d] h = .ok .non h) {r : Res W} (hr : (Py.run PG.T r57 ⟨call PG k, callM PG k, none⟩ [some d, some p.w] h).res = r) : call PG (k + 1) 57 [d, p.w] h = r := by
  rw [call_run f57 k _ _ rfl]
  show (Py.run PG.T b57 _ [some d, some p.w] h).res = _
  unfold b57
  rw [run_seq (run_exp (ev_call1 (w := d) rfl rfl hd))]
  rw [run_seq (run_exp (ev_call1 (w := p.w) rfl rfl (need_program_ok np p k h o hk)))]
  exact hr
def r37 : Py.St := (.seq (.ret (.ix (.call 35 (.cons (.var 0) (.cons (.var 1) .nil))) (.cst (.int 1))))
  .skip)
theorem fault_go {d : W} (p : Prog) (k : Nat) (h : MH) (o : p.ok = true) (hk : 16 ≤ k) (hd : call PG k 4 [d] h = .ok .non h) {r : Res W} (hr : (Py.run PG.T r37 ⟨call PG k, callM PG k, none⟩ [some d, some p.w] h).res = r) : call PG (k + 1) 37 [d, p.w] h = r := by
  rw [call_run f37 k _ _ rfl]
  show (Py.run PG.T b37 _ [some d, some p.w] h).res = _
  unfold b37
  rw [run_seq (run_exp (ev_call1 (w := d) rfl rfl hd))]
  rw [run_seq (run_exp (ev_call1 (w := p.w) rfl rfl (need_program_ok np p k h o hk)))]
  exact hr
def r94 : Py.St := (.seq (.asg (.tup (.cons (.nm 2) (.cons (.nm 3) .nil))) (.call 35 (.cons (.var 0) (.cons (.var 1) .nil))))
  (.seq (.ife (.not (.isc (.var 3) .non)) (.seq (.rai 4 .nil)
  .skip) .skip)
  (.seq (.ret (.bi .tuple (.cons (.comp 4 [4] (.its (.bi .sorted (.cons (.fld (.var 2) 3) .nil))) .yes (.tup (.cons (.var 4) (.cons (.ix (.fld (.var 2) 3) (.var 4)) .nil)))) .nil)))
  .skip)))
theorem types_go {d : W} (p : Prog) (k : Nat) (h : MH) (o : p.ok = true) (hk : 16 ≤ k) (hd : call PG k 4 [d] h = .ok .non h) {r : Res W} (hr : (Py.run PG.T r94 ⟨call PG k, callM PG k, none⟩ [some d, some p.w, none, none, none] h).res = r) : call PG (k + 1) 94 [d, p.w] h = r := by
  rw [call_run f94 k _ _ rfl]
  show (Py.run PG.T b94 _ [some d, some p.w, none, none, none] h).res = _
  unfold b94
  rw [run_seq (run_exp (ev_call1 (w := d) rfl rfl hd))]
  rw [run_seq (run_exp (ev_call1 (w := p.w) rfl rfl (need_program_ok np p k h o hk)))]
  exact hr
def s (x : String) : W := .str x
def t (x : List W) : W := .tup x
def des (l : List String) : W := t (l.map s)
def p2 (n m : Nat) : Prog := ⟨[], [.big 0 n m, .cell 1 0, .get 2 1 .small, .field 3 2 false, .shw 3, .put 1 2]⟩
def p3 (n m : Nat) : Prog := ⟨[], [.big 0 n m, .cell 1 0, .get 2 1 .small, .field 3 2 false, .shw 3, .put 1 0]⟩
def setr (n m : Nat) : Fun := ⟨.cell .small, .num, [.small 1 n, .put 0 1, .num 2 m], 2⟩
def p4 (n m : Nat) : Prog := ⟨[setr n m], [.big 0 n m, .cell 1 0, .call 2 0 1, .shw 2]⟩
def inr : List Stm := [.get 3 2 .big, .field 4 3 true, .shw 4]
def p5 (n m : Nat) : Prog := ⟨[], [.small 0 n, .big 1 n m, .cell 2 0, .put 2 1, .test 2 inr]⟩
def p6 (n m : Nat) : Prog := ⟨[], [.small 0 n, .big 1 n m, .cell 2 0, .put 2 1, .test 2 (.put 2 0 :: inr)]⟩
def p1 (n m : Nat) : Prog := ⟨[], [.big 0 n m, .cell 1 0, .get 2 1 .small, .field 3 2 false, .shw 3]⟩
theorem p1_ok {n m : Nat} (hn : n ≤ 99) (hm : m ≤ 99) : (p1 n m).ok = true := by
  simp [p1, setr, inr, Prog.ok, Fun.ok, okS, Stm.ok, nm, nn, nt, nf, Typ.dp, hn, hm]
theorem p2_ok {n m : Nat} (hn : n ≤ 99) (hm : m ≤ 99) : (p2 n m).ok = true := by
  simp [p2, setr, inr, Prog.ok, Fun.ok, okS, Stm.ok, nm, nn, nt, nf, Typ.dp, hn, hm]
theorem p3_ok {n m : Nat} (hn : n ≤ 99) (hm : m ≤ 99) : (p3 n m).ok = true := by
  simp [p3, setr, inr, Prog.ok, Fun.ok, okS, Stm.ok, nm, nn, nt, nf, Typ.dp, hn, hm]
theorem p4_ok {n m : Nat} (hn : n ≤ 99) (hm : m ≤ 99) : (p4 n m).ok = true := by
  simp [p4, setr, inr, Prog.ok, Fun.ok, okS, Stm.ok, nm, nn, nt, nf, Typ.dp, hn, hm]
theorem p5_ok {n m : Nat} (hn : n ≤ 99) (hm : m ≤ 99) : (p5 n m).ok = true := by
  simp [p5, setr, inr, Prog.ok, Fun.ok, okS, Stm.ok, nm, nn, nt, nf, Typ.dp, hn, hm]
theorem p6_ok {n m : Nat} (hn : n ≤ 99) (hm : m ≤ 99) : (p6 n m).ok = true := by
  simp [p6, setr, inr, Prog.ok, Fun.ok, okS, Stm.ok, nm, nn, nt, nf, Typ.dp, hn, hm]
def H0 (L : List W) : MH := [.lst L]
def D1 (n m : Nat) : MH := [.dic [],
  .ins 0 [(0, (.tup [])), (1, (.tup [])), (2, (.int 0)), (3, (.ref 3)), (4, (.ref 4))],
  .dic [(.inl 0, (.str "big")), (.inl 1, (.tup [(.str "cell"), (.str "big")])), (.inl 2, (.str "small")), (.inl 3, (.str "num"))],
  .dic [],
  .ins 5 [(0, (.tup [])), (1, (.tup [])), (11, (.ref 6)), (12, (.int 0))],
  .lst [(.int n)],
  .dic [(.inl 0, (.ref 14)), (.inl 1, (.ref 15)), (.inl 2, (.ref 14)), (.inl 3, (.int n))],
  .dic [],
  .ins 6 [(13, (.ref 5)), (14, (.ref 7)), (15, (.ref 10))],
  .ins 0 [(0, (.tup [])), (1, (.tup [])), (2, (.int 0)), (3, (.ref 11)), (4, (.ref 12))],
  .dic [(.inl 0, (.str "big")), (.inl 1, (.tup [(.str "cell"), (.str "big")])), (.inl 2, (.str "small")), (.inl 3, (.str "num"))],
  .dic [],
  .dic [(.inr "a", (.int n)), (.inr "b", (.int m))],
  .ins 2 [(5, (.str "record")), (6, (.ref 13))],
  .ins 3 [(5, (.str "cell")), (7, (.str "big")), (8, (.ref 14))]]
def H1 (n m : Nat) (L : List W) : MH := H0 L ++ D1 n m
def D2 (n m : Nat) : MH := [.dic [],
  .ins 0 [(0, (.tup [])), (1, (.tup [])), (2, (.int 0)), (3, (.ref 18)), (4, (.ref 19))],
  .dic [(.inl 0, (.str "big")), (.inl 1, (.tup [(.str "cell"), (.str "big")])), (.inl 2, (.str "small")), (.inl 3, (.str "num"))],
  .dic []]
def H2 (n m : Nat) (L : List W) : MH := H1 n m L ++ D2 n m
def D3 (n m : Nat) : MH := [.dic [],
  .ins 0 [(0, (.tup [])), (1, (.tup [])), (2, (.int 0)), (3, (.ref 22)), (4, (.ref 23))],
  .dic [(.inl 0, (.str "big")), (.inl 1, (.tup [(.str "cell"), (.str "big")])), (.inl 2, (.str "small")), (.inl 3, (.str "num"))],
  .dic []]
def H3 (n m : Nat) (L : List W) : MH := H2 n m L ++ D3 n m
def D4 (n m : Nat) : MH := [.dic [],
  .ins 0 [(0, (.tup [(.str "put")])), (1, (.tup [])), (2, (.int 0)), (3, (.ref 26)), (4, (.ref 27))],
  .dic [(.inl 0, (.str "big")), (.inl 1, (.tup [(.str "cell"), (.str "big")])), (.inl 2, (.str "small")), (.inl 3, (.str "num"))],
  .dic []]
def H4 (n m : Nat) (L : List W) : MH := H3 n m L ++ D4 n m
def D5 (n m : Nat) : MH := [.dic [],
  .ins 0 [(0, (.tup [(.str "put")])), (1, (.tup [])), (2, (.int 0)), (3, (.ref 30)), (4, (.ref 31))],
  .dic [(.inl 0, (.str "big")), (.inl 1, (.tup [(.str "cell"), (.str "big")])), (.inl 2, (.str "small")), (.inl 3, (.str "num"))],
  .dic []]
def H5 (n m : Nat) (L : List W) : MH := H4 n m L ++ D5 n m
def D6 (n m : Nat) : MH := [.dic [],
  .ins 0 [(0, (.tup [(.str "put")])), (1, (.tup [(.tup [(.tup [(.str "cell"), (.str "small")]), (.str "num"), (.tup [(.tup [(.str "small"), (.int 1), (.int n)]), (.tup [(.str "put"), (.int 0), (.int 1)]), (.tup [(.str "num"), (.int 2), (.int m)])]), (.int 2)])])), (2, (.int 1)), (3, (.ref 34)), (4, (.ref 35))],
  .dic [(.inl 0, (.str "big")), (.inl 1, (.tup [(.str "cell"), (.str "big")]))],
  .dic [],
  .dic [(.inl 0, (.tup [(.str "cell"), (.str "small")]))],
  .ins 0 [(0, (.tup [(.str "put")])), (1, (.tup [(.tup [(.tup [(.str "cell"), (.str "small")]), (.str "num"), (.tup [(.tup [(.str "small"), (.int 1), (.int n)]), (.tup [(.str "put"), (.int 0), (.int 1)]), (.tup [(.str "num"), (.int 2), (.int m)])]), (.int 2)])])), (2, (.int 0)), (3, (.ref 38)), (4, (.ref 39))],
  .dic [(.inl 0, (.tup [(.str "cell"), (.str "small")])), (.inl 1, (.str "small")), (.inl 2, (.str "num"))],
  .dic []]
def H6 (n m : Nat) (L : List W) : MH := H5 n m L ++ D6 n m
def D7 (n m : Nat) : MH := [.dic [],
  .ins 0 [(0, (.tup [(.str "along"), (.str "put")])), (1, (.tup [(.tup [(.tup [(.str "cell"), (.str "small")]), (.str "num"), (.tup [(.tup [(.str "small"), (.int 1), (.int n)]), (.tup [(.str "put"), (.int 0), (.int 1)]), (.tup [(.str "num"), (.int 2), (.int m)])]), (.int 2)])])), (2, (.int 1)), (3, (.ref 42)), (4, (.ref 48))],
  .dic [(.inl 0, (.str "big")), (.inl 1, (.tup [(.str "cell"), (.str "big")])), (.inl 2, (.str "num"))],
  .dic [],
  .dic [(.inl 0, (.tup [(.str "cell"), (.str "small")]))],
  .ins 0 [(0, (.tup [(.str "along"), (.str "put")])), (1, (.tup [(.tup [(.tup [(.str "cell"), (.str "small")]), (.str "num"), (.tup [(.tup [(.str "small"), (.int 1), (.int n)]), (.tup [(.str "put"), (.int 0), (.int 1)]), (.tup [(.str "num"), (.int 2), (.int m)])]), (.int 2)])])), (2, (.int 0)), (3, (.ref 46)), (4, (.ref 47))],
  .dic [(.inl 0, (.tup [(.str "cell"), (.str "small")])), (.inl 1, (.str "small")), (.inl 2, (.str "num"))],
  .dic [],
  .dic [],
  .ins 5 [(0, (.tup [(.str "along"), (.str "put")])), (1, (.tup [(.tup [(.tup [(.str "cell"), (.str "small")]), (.str "num"), (.tup [(.tup [(.str "small"), (.int 1), (.int n)]), (.tup [(.str "put"), (.int 0), (.int 1)]), (.tup [(.str "num"), (.int 2), (.int m)])]), (.int 2)])])), (11, (.ref 50)), (12, (.int 0))],
  .lst [(.int m)],
  .dic [(.inl 0, (.ref 58)), (.inl 1, (.ref 59)), (.inl 2, (.int m))],
  .dic [],
  .ins 6 [(13, (.ref 49)), (14, (.ref 51)), (15, (.ref 54))],
  .ins 0 [(0, (.tup [(.str "along"), (.str "put")])), (1, (.tup [(.tup [(.tup [(.str "cell"), (.str "small")]), (.str "num"), (.tup [(.tup [(.str "small"), (.int 1), (.int n)]), (.tup [(.str "put"), (.int 0), (.int 1)]), (.tup [(.str "num"), (.int 2), (.int m)])]), (.int 2)])])), (2, (.int 1)), (3, (.ref 55)), (4, (.ref 56))],
  .dic [(.inl 0, (.str "big")), (.inl 1, (.tup [(.str "cell"), (.str "big")])), (.inl 2, (.str "num"))],
  .dic [],
  .dic [(.inr "a", (.int n)), (.inr "b", (.int m))],
  .ins 2 [(5, (.str "record")), (6, (.ref 57))],
  .ins 3 [(5, (.str "cell")), (7, (.str "big")), (8, (.ref 67))],
  .dic [(.inl 0, (.ref 59)), (.inl 1, (.ref 67)), (.inl 2, (.int m))],
  .dic [(.inl 0, (.tup [(.str "cell"), (.str "small")]))],
  .ins 6 [(13, (.ref 49)), (14, (.ref 60)), (15, (.ref 63))],
  .ins 0 [(0, (.tup [(.str "along"), (.str "put")])), (1, (.tup [(.tup [(.tup [(.str "cell"), (.str "small")]), (.str "num"), (.tup [(.tup [(.str "small"), (.int 1), (.int n)]), (.tup [(.str "put"), (.int 0), (.int 1)]), (.tup [(.str "num"), (.int 2), (.int m)])]), (.int 2)])])), (2, (.int 0)), (3, (.ref 64)), (4, (.ref 65))],
  .dic [(.inl 0, (.tup [(.str "cell"), (.str "small")])), (.inl 1, (.str "small")), (.inl 2, (.str "num"))],
  .dic [],
  .dic [(.inr "a", (.int n))],
  .ins 2 [(5, (.str "record")), (6, (.ref 66))]]
def H7 (n m : Nat) (L : List W) : MH := H6 n m L ++ D7 n m
def D8 (n m : Nat) : MH := [.dic [],
  .ins 0 [(0, (.tup [(.str "along checked"), (.str "put")])), (1, (.tup [(.tup [(.tup [(.str "cell"), (.str "small")]), (.str "num"), (.tup [(.tup [(.str "small"), (.int 1), (.int n)]), (.tup [(.str "put"), (.int 0), (.int 1)]), (.tup [(.str "num"), (.int 2), (.int m)])]), (.int 2)])])), (2, (.int 1)), (3, (.ref 70)), (4, (.ref 76))],
  .dic [(.inl 0, (.str "big")), (.inl 1, (.tup [(.str "cell"), (.str "big")])), (.inl 2, (.str "num"))],
  .dic [],
  .dic [(.inl 0, (.tup [(.str "cell"), (.str "small")]))],
  .ins 0 [(0, (.tup [(.str "along checked"), (.str "put")])), (1, (.tup [(.tup [(.tup [(.str "cell"), (.str "small")]), (.str "num"), (.tup [(.tup [(.str "small"), (.int 1), (.int n)]), (.tup [(.str "put"), (.int 0), (.int 1)]), (.tup [(.str "num"), (.int 2), (.int m)])]), (.int 2)])])), (2, (.int 0)), (3, (.ref 74)), (4, (.ref 75))],
  .dic [(.inl 0, (.tup [(.str "cell"), (.str "small")])), (.inl 1, (.str "small")), (.inl 2, (.str "num"))],
  .dic [],
  .dic [],
  .ins 5 [(0, (.tup [(.str "along checked"), (.str "put")])), (1, (.tup [(.tup [(.tup [(.str "cell"), (.str "small")]), (.str "num"), (.tup [(.tup [(.str "small"), (.int 1), (.int n)]), (.tup [(.str "put"), (.int 0), (.int 1)]), (.tup [(.str "num"), (.int 2), (.int m)])]), (.int 2)])])), (11, (.ref 78)), (12, (.int 1))],
  .lst [],
  .dic [(.inl 0, (.ref 86)), (.inl 1, (.ref 87))],
  .dic [],
  .ins 6 [(13, (.ref 77)), (14, (.ref 79)), (15, (.ref 82))],
  .ins 0 [(0, (.tup [(.str "along checked"), (.str "put")])), (1, (.tup [(.tup [(.tup [(.str "cell"), (.str "small")]), (.str "num"), (.tup [(.tup [(.str "small"), (.int 1), (.int n)]), (.tup [(.str "put"), (.int 0), (.int 1)]), (.tup [(.str "num"), (.int 2), (.int m)])]), (.int 2)])])), (2, (.int 1)), (3, (.ref 83)), (4, (.ref 84))],
  .dic [(.inl 0, (.str "big")), (.inl 1, (.tup [(.str "cell"), (.str "big")]))],
  .dic [],
  .dic [(.inr "a", (.int n)), (.inr "b", (.int m))],
  .ins 2 [(5, (.str "record")), (6, (.ref 85))],
  .ins 3 [(5, (.str "cell")), (7, (.str "big")), (8, (.ref 86))],
  .dic [(.inl 0, (.ref 87)), (.inl 1, (.ref 95))],
  .dic [(.inl 0, (.tup [(.str "cell"), (.str "small")]))],
  .ins 6 [(13, (.ref 77)), (14, (.ref 88)), (15, (.ref 91))],
  .ins 0 [(0, (.tup [(.str "along checked"), (.str "put")])), (1, (.tup [(.tup [(.tup [(.str "cell"), (.str "small")]), (.str "num"), (.tup [(.tup [(.str "small"), (.int 1), (.int n)]), (.tup [(.str "put"), (.int 0), (.int 1)]), (.tup [(.str "num"), (.int 2), (.int m)])]), (.int 2)])])), (2, (.int 0)), (3, (.ref 92)), (4, (.ref 93))],
  .dic [(.inl 0, (.tup [(.str "cell"), (.str "small")])), (.inl 1, (.str "small"))],
  .dic [],
  .dic [(.inr "a", (.int n))],
  .ins 2 [(5, (.str "record")), (6, (.ref 94))]]
def H8 (n m : Nat) (L : List W) : MH := H7 n m L ++ D8 n m
def D9 (n m : Nat) : MH := [.dic [],
  .ins 0 [(0, (.tup [(.str "keep"), (.str "put")])), (1, (.tup [])), (2, (.int 0)), (3, (.ref 98)), (4, (.ref 104))],
  .dic [(.inl 0, (.str "small")), (.inl 1, (.str "big")), (.inl 2, (.tup [(.str "cell"), (.str "small")]))],
  .dic [],
  .ins 0 [(0, (.tup [(.str "keep"), (.str "put")])), (1, (.tup [])), (2, (.int 0)), (3, (.ref 101)), (4, (.ref 103))],
  .dic [(.inl 0, (.str "small")), (.inl 1, (.str "big")), (.inl 2, (.tup [(.str "cell"), (.str "small")])), (.inl 3, (.str "big")), (.inl 4, (.str "num"))],
  .dic [],
  .dic [(.inl 2, (.bl true))],
  .dic [],
  .ins 5 [(0, (.tup [(.str "keep"), (.str "put")])), (1, (.tup [])), (11, (.ref 106)), (12, (.int 0))],
  .lst [(.int m)],
  .dic [(.inl 0, (.ref 114)), (.inl 1, (.ref 116)), (.inl 2, (.ref 117))],
  .dic [],
  .ins 6 [(13, (.ref 105)), (14, (.ref 107)), (15, (.ref 110))],
  .ins 0 [(0, (.tup [(.str "keep"), (.str "put")])), (1, (.tup [])), (2, (.int 0)), (3, (.ref 111)), (4, (.ref 112))],
  .dic [(.inl 0, (.str "small")), (.inl 1, (.str "big")), (.inl 2, (.tup [(.str "cell"), (.str "small")]))],
  .dic [],
  .dic [(.inr "a", (.int n))],
  .ins 2 [(5, (.str "record")), (6, (.ref 113))],
  .dic [(.inr "a", (.int n)), (.inr "b", (.int m))],
  .ins 2 [(5, (.str "record")), (6, (.ref 115))],
  .ins 3 [(5, (.str "cell")), (7, (.str "small")), (8, (.ref 116))],
  .dic [(.inl 0, (.ref 114)), (.inl 1, (.ref 116)), (.inl 2, (.ref 117)), (.inl 3, (.ref 116)), (.inl 4, (.int m))],
  .ins 6 [(13, (.ref 105)), (14, (.ref 118)), (15, (.ref 120))],
  .ins 0 [(0, (.tup [(.str "keep"), (.str "put")])), (1, (.tup [])), (2, (.int 0)), (3, (.ref 121)), (4, (.ref 122))],
  .dic [(.inl 0, (.str "small")), (.inl 1, (.str "big")), (.inl 2, (.tup [(.str "cell"), (.str "small")])), (.inl 3, (.str "big")), (.inl 4, (.str "num"))],
  .dic []]
def H9 (n m : Nat) (L : List W) : MH := H8 n m L ++ D9 n m
def D10 (n m : Nat) : MH := [.dic [],
  .ins 0 [(0, (.tup [(.str "put")])), (1, (.tup [])), (2, (.int 0)), (3, (.ref 125)), (4, (.ref 131))],
  .dic [(.inl 0, (.str "small")), (.inl 1, (.str "big")), (.inl 2, (.tup [(.str "cell"), (.str "small")]))],
  .dic [],
  .ins 0 [(0, (.tup [(.str "put")])), (1, (.tup [])), (2, (.int 0)), (3, (.ref 128)), (4, (.ref 130))],
  .dic [(.inl 0, (.str "small")), (.inl 1, (.str "big")), (.inl 2, (.tup [(.str "cell"), (.str "small")]))],
  .dic [],
  .dic [],
  .dic []]
def H10 (n m : Nat) (L : List W) : MH := H9 n m L ++ D10 n m
def D11 (n m : Nat) : MH := [.dic [],
  .ins 0 [(0, (.tup [(.str "keep"), (.str "put")])), (1, (.tup [])), (2, (.int 0)), (3, (.ref 134)), (4, (.ref 140))],
  .dic [(.inl 0, (.str "small")), (.inl 1, (.str "big")), (.inl 2, (.tup [(.str "cell"), (.str "small")]))],
  .dic [],
  .ins 0 [(0, (.tup [(.str "keep"), (.str "put")])), (1, (.tup [])), (2, (.int 0)), (3, (.ref 137)), (4, (.ref 139))],
  .dic [(.inl 0, (.str "small")), (.inl 1, (.str "big")), (.inl 2, (.tup [(.str "cell"), (.str "small")]))],
  .dic [],
  .dic [],
  .dic []]
def H11 (n m : Nat) (L : List W) : MH := H10 n m L ++ D11 n m
theorem c1 {n m : Nat} (hn : n ≤ 99) (hm : m ≤ 99) (L : List W) : call PG 101 57 [des [], (p1 n m).w] (H0 L) = .ok (.tup [(.str "ends"), (.str ""), (.tup [(.int n)])]) (H1 n m L) := by
  rw [run_go (d := des []) (p1 n m) 100 (H0 L) (p1_ok hn hm) (by decide) (by kernel_rfl) rfl]
  kernel_rfl
theorem c2 {n m : Nat} (hn : n ≤ 99) (hm : m ≤ 99) (L : List W) : call PG 101 94 [des [], (p1 n m).w] (H1 n m L) = .ok (.tup [(.tup [(.int 0), (.str "big")]), (.tup [(.int 1), (.tup [(.str "cell"), (.str "big")])]), (.tup [(.int 2), (.str "small")]), (.tup [(.int 3), (.str "num")])]) (H2 n m L) := by
  rw [types_go (d := des []) (p1 n m) 100 (H1 n m L) (p1_ok hn hm) (by decide) (by kernel_rfl) rfl]
  kernel_rfl
theorem c3 {n m : Nat} (hn : n ≤ 99) (hm : m ≤ 99) (L : List W) : call PG 101 37 [des [], (p2 n m).w] (H2 n m L) = .ok (.tup [(.int 0), (.int 5)]) (H3 n m L) := by
  rw [fault_go (d := des []) (p2 n m) 100 (H2 n m L) (p2_ok hn hm) (by decide) (by kernel_rfl) rfl]
  kernel_rfl
theorem c4 {n m : Nat} (hn : n ≤ 99) (hm : m ≤ 99) (L : List W) : call PG 101 37 [des ["put"], (p2 n m).w] (H3 n m L) = .ok (.tup [(.int 0), (.int 5)]) (H4 n m L) := by
  rw [fault_go (d := des ["put"]) (p2 n m) 100 (H3 n m L) (p2_ok hn hm) (by decide) (by kernel_rfl) rfl]
  kernel_rfl
theorem c5' {n m : Nat} (hn : n ≤ 99) (hm : m ≤ 99) (L : List W) : call PG 100 37 [des ["put"], (p3 n m).w] (H4 n m L) = .ok .non (H5 n m L) := by
  rw [fault_go (d := des ["put"]) (p3 n m) 99 (H4 n m L) (p3_ok hn hm) (by decide) (by kernel_rfl) rfl]
  kernel_rfl
theorem c5 {n m : Nat} (hn : n ≤ 99) (hm : m ≤ 99) (L : List W) : call PG 101 38 [des ["put"], (p3 n m).w] (H4 n m L) = .ok (.bl true) (H5 n m L) := by
  rw [call_run f38 100 _ _ rfl]
  show (Py.run PG.T b38 _ [some (des ["put"]), some (p3 n m).w] _).res = _
  unfold b38
  have e := ev_call2 (T := PG.T) (X := ⟨call PG 100, callM PG 100, none⟩) (f := 37) (e := .var 0) (g := .var 1) (ρ := [some (des ["put"]), some (p3 n m).w]) (h := (H4 n m L)) rfl rfl rfl (c5' hn hm L)
  generalize (Ex.call 37 (.cons (.var 0) (.cons (.var 1) .nil))) = x at e
  rw [run_ret (w := .bl true) (h1 := H5 n m L) (by simp only [ev, e, Res.bind_ok]; rfl)]
  rfl
theorem c6 {n m : Nat} (hn : n ≤ 99) (hm : m ≤ 99) (L : List W) : call PG 101 37 [des ["put"], (p4 n m).w] (H5 n m L) = .ok (.tup [(.int 1), (.int 2)]) (H6 n m L) := by
  rw [fault_go (d := des ["put"]) (p4 n m) 100 (H5 n m L) (p4_ok hn hm) (by decide) (by kernel_rfl) rfl]
  kernel_rfl
theorem c7 {n m : Nat} (hn : n ≤ 99) (hm : m ≤ 99) (L : List W) : call PG 101 57 [des ["along", "put"], (p4 n m).w] (H6 n m L) = .ok (.tup [(.str "ends"), (.str ""), (.tup [(.int m)])]) (H7 n m L) := by
  rw [run_go (d := des ["along", "put"]) (p4 n m) 100 (H6 n m L) (p4_ok hn hm) (by decide) (by kernel_rfl) rfl]
  kernel_rfl
theorem c8 {n m : Nat} (hn : n ≤ 99) (hm : m ≤ 99) (L : List W) : call PG 101 57 [des ["along checked", "put"], (p4 n m).w] (H7 n m L) = .ok (.tup [(.str "stops"), (.str "put"), (.tup [])]) (H8 n m L) := by
  rw [run_go (d := des ["along checked", "put"]) (p4 n m) 100 (H7 n m L) (p4_ok hn hm) (by decide) (by kernel_rfl) rfl]
  kernel_rfl
theorem c9 {n m : Nat} (hn : n ≤ 99) (hm : m ≤ 99) (L : List W) : call PG 101 57 [des ["keep", "put"], (p5 n m).w] (H8 n m L) = .ok (.tup [(.str "ends"), (.str ""), (.tup [(.int m)])]) (H9 n m L) := by
  rw [run_go (d := des ["keep", "put"]) (p5 n m) 100 (H8 n m L) (p5_ok hn hm) (by decide) (by kernel_rfl) rfl]
  kernel_rfl
theorem c10 {n m : Nat} (hn : n ≤ 99) (hm : m ≤ 99) (L : List W) : call PG 101 37 [des ["put"], (p5 n m).w] (H9 n m L) = .ok (.tup [(.int 0), (.int 4), (.int 0)]) (H10 n m L) := by
  rw [fault_go (d := des ["put"]) (p5 n m) 100 (H9 n m L) (p5_ok hn hm) (by decide) (by kernel_rfl) rfl]
  kernel_rfl
theorem c11 {n m : Nat} (hn : n ≤ 99) (hm : m ≤ 99) (L : List W) : call PG 101 37 [des ["keep", "put"], (p6 n m).w] (H10 n m L) = .ok (.tup [(.int 0), (.int 4), (.int 1)]) (H11 n m L) := by
  rw [fault_go (d := des ["keep", "put"]) (p6 n m) 100 (H10 n m L) (p6_ok hn hm) (by decide) (by kernel_rfl) rfl]
  kernel_rfl
end K13

set_option maxHeartbeats 8000000
namespace Py
theorem ev_ne {T : Tb} {X : Cxt} {e f : Ex} {ρ : Env} {h h1 : MH} {v : W} (he : ev T X e ρ h = .ok v h1) (hf : ev T X f ρ h1 = .ok v h1) (hs : wCmp .ne h1 v v = some false) : ev T X (.cmp .ne e f) ρ h = .ok (.bl false) h1 := by
  simp only [ev, he, hf, Res.bind_ok, hs]; rfl
theorem ev_orH {T : Tb} {X : Cxt} {e f : Ex} {ρ : Env} {h h1 h2 : MH} {c : Bool} (he : ev T X e ρ h = .ok (.bl false) h1) (hf : ev T X f ρ h1 = .ok (.bl c) h2) : ev T X (.or e f) ρ h = .ok (.bl c) h2 := by
  simp only [ev, he, Res.bind_ok, truth, lift_some]
  exact hf
theorem ev_notisT {T : Tb} {X : Cxt} {e : Ex} {ρ : Env} {h h1 : MH} (he : ev T X e ρ h = .ok (.bl true) h1) : ev T X (.not (.isc e (.bl true))) ρ h = .ok (.bl false) h1 := by
  simp only [ev, he, Res.bind_ok]; rfl
def okT : Res W → Bool
  | .ok (.bl true) _ => true
  | _ => false
theorem okT_of {r : Res W} (h : okT r = true) : ∃ h', r = .ok (.bl true) h' := by
  cases r with
  | ok w h' =>
    cases w with
    | bl b => cases b with
      | true => exact ⟨h', rfl⟩
      | false => cases h
    | _ => cases h
  | _ => cases h
end Py
namespace K13
open Py Py.Mi
def rf : Py.St := .seq (.ret (.cst (.bl false))) .skip
def g1 : Ex := (.mls (.cons (.var 0) (.cons (.cst (.int 0)) (.cons (.cst (.int 14283)) (.cons (.cst (.int 0)) .nil)))))
def g4 : Ex := (.tup (.cons (.tup .nil) (.cons (.tup (.cons (.tup (.cons (.cst (.str "big")) (.cons (.cst (.int 0)) (.cons (.var 2) (.cons (.var 3) .nil))))) (.cons (.tup (.cons (.cst (.str "cell")) (.cons (.cst (.int 1)) (.cons (.cst (.int 0)) .nil)))) (.cons (.tup (.cons (.cst (.str "get")) (.cons (.cst (.int 2)) (.cons (.cst (.int 1)) (.cons (.cst (.str "small")) .nil))))) (.cons (.tup (.cons (.cst (.str "field")) (.cons (.cst (.int 3)) (.cons (.cst (.int 2)) (.cons (.cst (.str "a")) .nil))))) (.cons (.tup (.cons (.cst (.str "show")) (.cons (.cst (.int 3)) .nil))) .nil)))))) .nil)))
def g5 : Ex := (.tup (.cons (.tup (.cons (.cst (.str "cell")) (.cons (.cst (.str "small")) .nil))) (.cons (.cst (.str "num")) (.cons (.tup (.cons (.tup (.cons (.cst (.str "small")) (.cons (.cst (.int 1)) (.cons (.var 2) .nil)))) (.cons (.tup (.cons (.cst (.str "put")) (.cons (.cst (.int 0)) (.cons (.cst (.int 1)) .nil)))) (.cons (.tup (.cons (.cst (.str "num")) (.cons (.cst (.int 2)) (.cons (.var 3) .nil)))) .nil)))) (.cons (.cst (.int 2)) .nil)))))
def g6 : Ex := (.tup (.cons (.tup (.cons (.cst (.str "big")) (.cons (.cst (.int 0)) (.cons (.var 2) (.cons (.var 3) .nil))))) (.cons (.tup (.cons (.cst (.str "cell")) (.cons (.cst (.int 1)) (.cons (.cst (.int 0)) .nil)))) (.cons (.tup (.cons (.cst (.str "call")) (.cons (.cst (.int 2)) (.cons (.cst (.int 0)) (.cons (.cst (.int 1)) .nil))))) (.cons (.tup (.cons (.cst (.str "show")) (.cons (.cst (.int 2)) .nil))) .nil)))))
def g7 : Ex := (.tup (.cons (.tup (.cons (.cst (.str "small")) (.cons (.cst (.int 0)) (.cons (.var 2) .nil)))) (.cons (.tup (.cons (.cst (.str "big")) (.cons (.cst (.int 1)) (.cons (.var 2) (.cons (.var 3) .nil))))) (.cons (.tup (.cons (.cst (.str "cell")) (.cons (.cst (.int 2)) (.cons (.cst (.int 0)) .nil)))) (.cons (.tup (.cons (.cst (.str "put")) (.cons (.cst (.int 2)) (.cons (.cst (.int 1)) .nil)))) .nil)))))
def g8 : Ex := (.tup (.cons (.tup (.cons (.cst (.str "get")) (.cons (.cst (.int 3)) (.cons (.cst (.int 2)) (.cons (.cst (.str "big")) .nil))))) (.cons (.tup (.cons (.cst (.str "field")) (.cons (.cst (.int 4)) (.cons (.cst (.int 3)) (.cons (.cst (.str "b")) .nil))))) (.cons (.tup (.cons (.cst (.str "show")) (.cons (.cst (.int 4)) .nil))) .nil))))
def e1 : Ex := (.or (.cmp .ne (.call 57 (.cons (.tup .nil) (.cons (.var 4) .nil))) (.tup (.cons (.cst (.str "ends")) (.cons (.cst (.str "")) (.cons (.tup (.cons (.var 2) .nil)) .nil))))) (.cmp .ne (.call 94 (.cons (.tup .nil) (.cons (.var 4) .nil))) (.tup (.cons (.tup (.cons (.cst (.int 0)) (.cons (.cst (.str "big")) .nil))) (.cons (.tup (.cons (.cst (.int 1)) (.cons (.tup (.cons (.cst (.str "cell")) (.cons (.cst (.str "big")) .nil))) .nil))) (.cons (.tup (.cons (.cst (.int 2)) (.cons (.cst (.str "small")) .nil))) (.cons (.tup (.cons (.cst (.int 3)) (.cons (.cst (.str "num")) .nil))) .nil)))))))
def e2 : Ex := (.or (.cmp .ne (.call 37 (.cons (.tup .nil) (.cons (.tup (.cons (.tup .nil) (.cons (.bin .add (.ix (.var 4) (.cst (.int 1))) (.tup (.cons (.tup (.cons (.cst (.str "put")) (.cons (.cst (.int 1)) (.cons (.cst (.int 2)) .nil)))) .nil))) .nil))) .nil))) (.tup (.cons (.cst (.int 0)) (.cons (.cst (.int 5)) .nil)))) (.cmp .ne (.call 37 (.cons (.tup (.cons (.cst (.str "put")) .nil)) (.cons (.tup (.cons (.tup .nil) (.cons (.bin .add (.ix (.var 4) (.cst (.int 1))) (.tup (.cons (.tup (.cons (.cst (.str "put")) (.cons (.cst (.int 1)) (.cons (.cst (.int 2)) .nil)))) .nil))) .nil))) .nil))) (.tup (.cons (.cst (.int 0)) (.cons (.cst (.int 5)) .nil)))))
def e3 : Ex := (.not (.isc (.call 38 (.cons (.tup (.cons (.cst (.str "put")) .nil)) (.cons (.tup (.cons (.tup .nil) (.cons (.bin .add (.ix (.var 4) (.cst (.int 1))) (.tup (.cons (.tup (.cons (.cst (.str "put")) (.cons (.cst (.int 1)) (.cons (.cst (.int 0)) .nil)))) .nil))) .nil))) .nil))) (.bl true)))
def e4 : Ex := (.or (.cmp .ne (.call 37 (.cons (.tup (.cons (.cst (.str "put")) .nil)) (.cons (.tup (.cons (.tup (.cons (.var 5) .nil)) (.cons (.var 6) .nil))) .nil))) (.tup (.cons (.cst (.int 1)) (.cons (.cst (.int 2)) .nil)))) (.cmp .ne (.call 57 (.cons (.tup (.cons (.cst (.str "along")) (.cons (.cst (.str "put")) .nil))) (.cons (.tup (.cons (.tup (.cons (.var 5) .nil)) (.cons (.var 6) .nil))) .nil))) (.tup (.cons (.cst (.str "ends")) (.cons (.cst (.str "")) (.cons (.tup (.cons (.var 3) .nil)) .nil))))))
def e5 : Ex := (.cmp .ne (.call 57 (.cons (.tup (.cons (.cst (.str "along checked")) (.cons (.cst (.str "put")) .nil))) (.cons (.tup (.cons (.tup (.cons (.var 5) .nil)) (.cons (.var 6) .nil))) .nil))) (.tup (.cons (.cst (.str "stops")) (.cons (.cst (.str "put")) (.cons (.tup .nil) .nil)))))
def e6 : Ex := (.cmp .ne (.call 57 (.cons (.tup (.cons (.cst (.str "keep")) (.cons (.cst (.str "put")) .nil))) (.cons (.tup (.cons (.tup .nil) (.cons (.bin .add (.var 7) (.tup (.cons (.tup (.cons (.cst (.str "test")) (.cons (.cst (.int 2)) (.cons (.var 8) .nil)))) .nil))) .nil))) .nil))) (.tup (.cons (.cst (.str "ends")) (.cons (.cst (.str "")) (.cons (.tup (.cons (.var 3) .nil)) .nil)))))
def e7 : Ex := (.or (.cmp .ne (.call 37 (.cons (.tup (.cons (.cst (.str "put")) .nil)) (.cons (.tup (.cons (.tup .nil) (.cons (.bin .add (.var 7) (.tup (.cons (.tup (.cons (.cst (.str "test")) (.cons (.cst (.int 2)) (.cons (.var 8) .nil)))) .nil))) .nil))) .nil))) (.tup (.cons (.cst (.int 0)) (.cons (.cst (.int 4)) (.cons (.cst (.int 0)) .nil))))) (.cmp .ne (.call 37 (.cons (.tup (.cons (.cst (.str "keep")) (.cons (.cst (.str "put")) .nil))) (.cons (.tup (.cons (.tup .nil) (.cons (.bin .add (.var 7) (.tup (.cons (.tup (.cons (.cst (.str "test")) (.cons (.cst (.int 2)) (.cons (.bin .add (.tup (.cons (.tup (.cons (.cst (.str "put")) (.cons (.cst (.int 2)) (.cons (.cst (.int 0)) .nil)))) .nil)) (.var 8)) .nil)))) .nil))) .nil))) .nil))) (.tup (.cons (.cst (.int 0)) (.cons (.cst (.int 4)) (.cons (.cst (.int 1)) .nil))))))
def e8 : Ex := (.cmp .ne (.call 57 (.cons (.tup (.cons (.cst (.str "blank")) .nil)) (.cons (.tup (.cons (.tup .nil) (.cons (.tup (.cons (.tup (.cons (.cst (.str "blank")) (.cons (.cst (.int 0)) .nil))) (.cons (.tup (.cons (.cst (.str "get")) (.cons (.cst (.int 1)) (.cons (.cst (.int 0)) (.cons (.cst (.str "big")) .nil))))) .nil))) .nil))) .nil))) (.tup (.cons (.cst (.str "stops")) (.cons (.cst (.str "empty")) (.cons (.tup .nil) .nil)))))
def e9 : Ex := (.cmp .ne (.call 57 (.cons (.tup (.cons (.cst (.str "none checked")) .nil)) (.cons (.tup (.cons (.tup .nil) (.cons (.tup (.cons (.tup (.cons (.cst (.str "none")) (.cons (.cst (.int 0)) (.cons (.cst (.str "num")) .nil)))) (.cons (.tup (.cons (.cst (.str "show")) (.cons (.cst (.int 0)) .nil))) .nil))) .nil))) .nil))) (.tup (.cons (.cst (.str "stops")) (.cons (.cst (.str "none")) (.cons (.tup .nil) .nil)))))
def e10 : Ex := (.or (.not (.isc (.call 12 (.cons (.tup (.cons (.cst (.str "along")) (.cons (.cst (.str "keep")) (.cons (.cst (.str "share")) .nil)))) .nil)) (.bl true))) (.cmp .ne (.call 89 (.cons (.tup (.cons (.cst (.str "along")) (.cons (.cst (.str "keep")) (.cons (.cst (.str "put")) (.cons (.cst (.str "share")) .nil))))) .nil)) (.tup (.cons (.tup (.cons (.cst (.str "along")) (.cons (.cst (.str "put")) .nil))) (.cons (.tup (.cons (.cst (.str "keep")) (.cons (.cst (.str "put")) (.cons (.cst (.str "share")) .nil)))) .nil)))))
def e11 : Ex := (.or (.cmp .ne (.call 111 (.cons (.tup (.cons (.cst (.str "along")) (.cons (.cst (.str "keep")) (.cons (.cst (.str "put")) (.cons (.cst (.str "share")) .nil))))) .nil)) (.tup (.cons (.cst (.str "put")) .nil))) (.or (.cmp .ne (.bi .len (.cons (.call 110 (.cons (.tup .nil) .nil)) .nil)) (.cst (.int 3))) (.cmp .ne (.bi .len (.cons (.call 110 (.cons (.tup (.cons (.cst (.str "keep")) .nil)) .nil)) .nil)) (.cst (.int 2)))))
def e12 : Ex := (.or (.cmp .ne (.call 104 (.cons (.tup (.cons (.cst (.str "along checked")) (.cons (.cst (.str "calls")) .nil))) .nil)) (.tup (.cons (.cst (.str "along")) .nil))) (.not (.isc (.call 105 (.cons (.tup (.cons (.cst (.str "along")) .nil)) (.cons (.tup (.cons (.cst (.str "along checked")) (.cons (.cst (.str "calls")) .nil))) .nil))) (.bl true))))
def e13 : Ex := (.or (.not (.isc (.call 99 (.cons (.tup (.cons (.cst (.str "along")) .nil)) (.cons (.tup (.cons (.cst (.str "cell")) (.cons (.tup (.cons (.cst (.str "cell")) (.cons (.cst (.str "big")) .nil))) .nil))) (.cons (.tup (.cons (.cst (.str "cell")) (.cons (.tup (.cons (.cst (.str "cell")) (.cons (.cst (.str "small")) .nil))) .nil))) .nil)))) (.bl true))) (.cmp .ne (.call 108 (.cons (.tup (.cons (.cst (.str "along")) (.cons (.cst (.str "put")) .nil))) .nil)) (.tup (.cons (.cst (.str "along checked")) (.cons (.cst (.str "put")) .nil)))))
def e14 : Ex := (.or (.not (.isc (.call 99 (.cons (.tup .nil) (.cons (.tup (.cons (.cst (.str "fun")) (.cons (.cst (.str "small")) (.cons (.cst (.str "big")) .nil)))) (.cons (.tup (.cons (.cst (.str "fun")) (.cons (.cst (.str "big")) (.cons (.cst (.str "small")) .nil)))) .nil)))) (.bl true))) (.not (.isc (.call 99 (.cons (.tup .nil) (.cons (.tup (.cons (.cst (.str "fun")) (.cons (.cst (.str "big")) (.cons (.cst (.str "num")) .nil)))) (.cons (.tup (.cons (.cst (.str "fun")) (.cons (.cst (.str "small")) (.cons (.cst (.str "num")) .nil)))) .nil)))) (.bl false))))
def eR : Ex := (.cmp .eq (.call 116 (.cons (.tup (.cons (.tup .nil) (.cons (.tup (.cons (.tup (.cons (.cst (.str "test")) (.cons (.cst (.int 0)) (.cons (.tup (.cons (.tup (.cons (.cst (.str "show")) (.cons (.cst (.int 1)) .nil))) .nil)) .nil)))) .nil)) .nil))) .nil)) (.cst (.str "main\ntest 0\nshow 1\nend")))
def b8 : Py.St := (.seq (.ife e8 rf .skip)
  (.seq (.ife e9 rf .skip)
  (.seq (.ife e10 rf .skip)
  (.seq (.ife e11 rf .skip)
  (.seq (.ife e12 rf .skip)
  (.seq (.ife e13 rf .skip)
  (.seq (.ife e14 rf .skip)
  (.seq (.ret eR)
  .skip))))))))
def bB : Py.St := (.seq (.asg (.nm 4) g4)
  (.seq (.ife e1 rf .skip)
  (.seq (.ife e2 rf .skip)
  (.seq (.ife e3 rf .skip)
  (.seq (.asg (.nm 5) g5)
  (.seq (.asg (.nm 6) g6)
  (.seq (.ife e4 rf .skip)
  (.seq (.ife e5 rf .skip)
  (.seq (.asg (.nm 7) g7)
  (.seq (.asg (.nm 8) g8)
  (.seq (.ife e6 rf .skip)
  (.seq (.ife e7 rf .skip)
  b8))))))))))))
def b86 : Py.St := (.seq (.asg (.nm 1) g1) (.seq (.par [2, 3] (.cons (.call 58 (.cons (.var 1) (.cons (.cst (.int 100)) .nil))) (.cons (.call 58 (.cons (.var 1) (.cons (.cst (.int 100)) .nil))) .nil))) bB))
theorem f86 : PG.fn 86 = some (1, 9, b86) := by kernel_rfl
theorem f58 : PG.fn 58 = some (2, 4, bTaken) := by kernel_rfl
abbrev XX : Cxt := ⟨call PG 101, callM PG 101, none⟩
def E4 (ns : List Int) (n m : Nat) : Env := [some (.scr ns), some (.ref 0), some (.int n), some (.int m), some (p1 n m).w, none, none, none, none]
def E5 (ns : List Int) (n m : Nat) : Env := [some (.scr ns), some (.ref 0), some (.int n), some (.int m), some (p1 n m).w, some (setr n m).w, some (.tup (wsS (p4 n m).b)), none, none]
def E7 (ns : List Int) (n m : Nat) : Env := [some (.scr ns), some (.ref 0), some (.int n), some (.int m), some (p1 n m).w, some (setr n m).w, some (.tup (wsS (p4 n m).b)), some (.tup (wsS [.small 0 n, .big 1 n m, .cell 2 0, .put 2 1])), some (.tup (wsS inr))]
theorem neW (h : MH) (v : W) (hp : v.pure = true) (hd : v.depth ≤ 64) (he : v.eqv v = true) (hr : deref h v = v) : wCmp .ne h v v = some false := by
  have e : wCmp .ne h v v = (wEq h v v).map not := by
    unfold wCmp
    cases v <;> rfl
  rw [e]
  simp only [wEq, hr, hp, he, Bool.and_self, Bool.true_and]
  rw [if_pos (by simpa using hd)]
  rfl
theorem neE (h : MH) (a b : String) (i : Int) : wCmp .ne h (.tup [.str a, .str b, .tup [.int i]]) (.tup [.str a, .str b, .tup [.int i]]) = some false :=
  neW h _ rfl (by simp [W.depth, depthAll]) (by simp [W.eqv, eqvAll]) rfl
theorem q1 {X : Cxt} (hc : X.calm = true) (hC : X.C = call PG 101) {n m : Nat} (hn : n ≤ 99) (hm : m ≤ 99) (ns : List Int) (L : List W) : ev PG.T X e1 (E4 ns n m) (H0 L) = .ok (.bl false) (H2 n m L) := by
  unfold e1
  exact ev_orH (ev_ne (h1 := H1 n m L) (ev_call2H (h1 := (H0 L)) (h2 := (H0 L)) (w := des []) (u := (p1 n m).w) hc (by kernel_rfl) (by kernel_rfl) (by rw [hC]; exact c1 hn hm L)) (by kernel_rfl) (neE _ _ _ _)) (ev_ne (h1 := H2 n m L) (ev_call2H (h1 := (H1 n m L)) (h2 := (H1 n m L)) (w := des []) (u := (p1 n m).w) hc (by kernel_rfl) (by kernel_rfl) (by rw [hC]; exact c2 hn hm L)) (by kernel_rfl) (by kernel_rfl))
theorem q2 {X : Cxt} (hc : X.calm = true) (hC : X.C = call PG 101) {n m : Nat} (hn : n ≤ 99) (hm : m ≤ 99) (ns : List Int) (L : List W) : ev PG.T X e2 (E4 ns n m) (H2 n m L) = .ok (.bl false) (H4 n m L) := by
  unfold e2
  exact ev_orH (ev_ne (h1 := H3 n m L) (ev_call2H (h1 := (H2 n m L)) (h2 := (H2 n m L)) (w := des []) (u := (p2 n m).w) hc (by kernel_rfl) (by kernel_rfl) (by rw [hC]; exact c3 hn hm L)) (by kernel_rfl) (by kernel_rfl)) (ev_ne (h1 := H4 n m L) (ev_call2H (h1 := (H3 n m L)) (h2 := (H3 n m L)) (w := des ["put"]) (u := (p2 n m).w) hc (by kernel_rfl) (by kernel_rfl) (by rw [hC]; exact c4 hn hm L)) (by kernel_rfl) (by kernel_rfl))
theorem q3 {X : Cxt} (hc : X.calm = true) (hC : X.C = call PG 101) {n m : Nat} (hn : n ≤ 99) (hm : m ≤ 99) (ns : List Int) (L : List W) : ev PG.T X e3 (E4 ns n m) (H4 n m L) = .ok (.bl false) (H5 n m L) := by
  unfold e3
  exact ev_notisT (ev_call2H (h1 := H4 n m L) (h2 := H4 n m L) (w := des ["put"]) (u := (p3 n m).w) hc (by kernel_rfl) (by kernel_rfl) (by rw [hC]; exact c5 hn hm L))
theorem q4 {X : Cxt} (hc : X.calm = true) (hC : X.C = call PG 101) {n m : Nat} (hn : n ≤ 99) (hm : m ≤ 99) (ns : List Int) (L : List W) : ev PG.T X e4 (E5 ns n m) (H5 n m L) = .ok (.bl false) (H7 n m L) := by
  unfold e4
  exact ev_orH (ev_ne (h1 := H6 n m L) (ev_call2H (h1 := (H5 n m L)) (h2 := (H5 n m L)) (w := des ["put"]) (u := (p4 n m).w) hc (by kernel_rfl) (by kernel_rfl) (by rw [hC]; exact c6 hn hm L)) (by kernel_rfl) (by kernel_rfl)) (ev_ne (h1 := H7 n m L) (ev_call2H (h1 := (H6 n m L)) (h2 := (H6 n m L)) (w := des ["along", "put"]) (u := (p4 n m).w) hc (by kernel_rfl) (by kernel_rfl) (by rw [hC]; exact c7 hn hm L)) (by kernel_rfl) (neE _ _ _ _))
theorem q5 {X : Cxt} (hc : X.calm = true) (hC : X.C = call PG 101) {n m : Nat} (hn : n ≤ 99) (hm : m ≤ 99) (ns : List Int) (L : List W) : ev PG.T X e5 (E5 ns n m) (H7 n m L) = .ok (.bl false) (H8 n m L) := by
  unfold e5
  exact (ev_ne (h1 := H8 n m L) (ev_call2H (h1 := (H7 n m L)) (h2 := (H7 n m L)) (w := des ["along checked", "put"]) (u := (p4 n m).w) hc (by kernel_rfl) (by kernel_rfl) (by rw [hC]; exact c8 hn hm L)) (by kernel_rfl) (by kernel_rfl))
theorem q6 {X : Cxt} (hc : X.calm = true) (hC : X.C = call PG 101) {n m : Nat} (hn : n ≤ 99) (hm : m ≤ 99) (ns : List Int) (L : List W) : ev PG.T X e6 (E7 ns n m) (H8 n m L) = .ok (.bl false) (H9 n m L) := by
  unfold e6
  exact (ev_ne (h1 := H9 n m L) (ev_call2H (h1 := (H8 n m L)) (h2 := (H8 n m L)) (w := des ["keep", "put"]) (u := (p5 n m).w) hc (by kernel_rfl) (by kernel_rfl) (by rw [hC]; exact c9 hn hm L)) (by kernel_rfl) (neE _ _ _ _))
theorem q7 {X : Cxt} (hc : X.calm = true) (hC : X.C = call PG 101) {n m : Nat} (hn : n ≤ 99) (hm : m ≤ 99) (ns : List Int) (L : List W) : ev PG.T X e7 (E7 ns n m) (H9 n m L) = .ok (.bl false) (H11 n m L) := by
  unfold e7
  exact ev_orH (ev_ne (h1 := H10 n m L) (ev_call2H (h1 := (H9 n m L)) (h2 := (H9 n m L)) (w := des ["put"]) (u := (p5 n m).w) hc (by kernel_rfl) (by kernel_rfl) (by rw [hC]; exact c10 hn hm L)) (by kernel_rfl) (by kernel_rfl)) (ev_ne (h1 := H11 n m L) (ev_call2H (h1 := (H10 n m L)) (h2 := (H10 n m L)) (w := des ["keep", "put"]) (u := (p6 n m).w) hc (by kernel_rfl) (by kernel_rfl) (by rw [hC]; exact c11 hn hm L)) (by kernel_rfl) (by kernel_rfl))
theorem q8 (n m : Nat) (ns : List Int) (L : List W) : okT (Py.run PG.T b8 XX (E7 ns n m) (H11 n m L)).res = true := by kernel_rfl
theorem rest_ok {n m : Nat} (hn : n ≤ 99) (hm : m ≤ 99) (ns : List Int) (L : List W) : okT (Py.run PG.T bB XX [some (.scr ns), some (.ref 0), some (.int n), some (.int m), none, none, none, none, none] (H0 L)).res = true := by
  have hC : XX.C = call PG 101 := rfl
  have hc : XX.calm = true := rfl
  unfold bB
  rw [run_seq (run_asg (h1 := H0 L) (w := (p1 n m).w) rfl (by kernel_rfl))]
  show okT (Py.run PG.T _ XX (E4 ns n m) (H0 L)).res = true
  rw [run_ife_seq (q1 hc hC hn hm ns L), run_ife_seq (q2 hc hC hn hm ns L), run_ife_seq (q3 hc hC hn hm ns L)]
  rw [run_seq (run_asg (h1 := H5 n m L) (w := (setr n m).w) rfl (by kernel_rfl)), run_seq (run_asg (h1 := H5 n m L) (w := .tup (wsS (p4 n m).b)) rfl (by kernel_rfl))]
  show okT (Py.run PG.T _ XX (E5 ns n m) (H5 n m L)).res = true
  rw [run_ife_seq (q4 hc hC hn hm ns L), run_ife_seq (q5 hc hC hn hm ns L)]
  rw [run_seq (run_asg (h1 := H8 n m L) (w := .tup (wsS [.small 0 n, .big 1 n m, .cell 2 0, .put 2 1])) rfl (by kernel_rfl)), run_seq (run_asg (h1 := H8 n m L) (w := .tup (wsS inr)) rfl (by kernel_rfl))]
  show okT (Py.run PG.T _ XX (E7 ns n m) (H8 n m L)).res = true
  rw [run_ife_seq (q6 hc hC hn hm ns L), run_ife_seq (q7 hc hC hn hm ns L)]
  exact q8 n m ns L
theorem law_ok (ns : List Int) : ∃ h', call PG 102 86 [.scr ns] [] = .ok (.bl true) h' := by
  apply okT_of
  rw [call_run f86 101 _ _ rfl]
  show okT (Py.run PG.T b86 XX [some (.scr ns), none, none, none, none, none, none, none, none] []).res = true
  unfold b86
  have s1 : Py.run PG.T (.asg (.nm 1) g1) XX [some (.scr ns), none, none, none, none, none, none, none, none] [] = .nx [some (.scr ns), some (.ref 0), none, none, none, none, none, none, none] [rowW ns 0 14283 0] := by kernel_rfl
  rw [run_seq s1]
  have R0 : Row ns 0 [rowW ns 0 14283 0] := ⟨0, 14283, 0, by decide, rfl⟩
  obtain ⟨v1, h1, a1, b1, u1, t1⟩ := taken_up f58 100 R0 (m := 100) (by decide) (by decide)
  obtain ⟨v2, h2, a2, b2, u2, t2⟩ := taken_up f58 100 (Up.row R0 u1) (m := 100) (by decide) (by decide)
  have u := Up.trans u1 u2
  obtain ⟨i, st, rs, _, rfl⟩ := u
  obtain ⟨n, rfl⟩ : ∃ n : Nat, v1 = (n : Int) := ⟨v1.toNat, by omega⟩
  obtain ⟨m, rfl⟩ : ∃ m : Nat, v2 = (m : Int) := ⟨v2.toNat, by omega⟩
  have p2 : Py.run PG.T (.par [2, 3] (.cons (.call 58 (.cons (.var 1) (.cons (.cst (.int 100)) .nil))) (.cons (.call 58 (.cons (.var 1) (.cons (.cst (.int 100)) .nil))) .nil))) XX [some (.scr ns), some (.ref 0), none, none, none, none, none, none, none] [rowW ns 0 14283 0]
      = .nx [some (.scr ns), some (.ref 0), some (.int n), some (.int m), none, none, none, none, none] (setAt [rowW ns 0 14283 0] 0 (rowW ns i st rs)) := by
    have z1 : ev PG.T XX (.call 58 (.cons (.var 1) (.cons (.cst (.int 100)) .nil))) [some (.scr ns), some (.ref 0), none, none, none, none, none, none, none] [rowW ns 0 14283 0] = .ok (.int n) h1 := ev_call2H (w := .ref 0) (u := .int 100) rfl rfl rfl t1
    have z2 : ev PG.T XX (.call 58 (.cons (.var 1) (.cons (.cst (.int 100)) .nil))) [some (.scr ns), some (.ref 0), none, none, none, none, none, none, none] h1 = .ok (.int m) (setAt [rowW ns 0 14283 0] 0 (rowW ns i st rs)) := ev_call2H (w := .ref 0) (u := .int 100) rfl rfl rfl t2
    generalize (Ex.call 58 (.cons (.var 1) (.cons (.cst (.int 100)) .nil))) = x at z1 z2
    simp only [Py.run, evs, z1, z2, Res.bind_ok, stm]
    rfl
  rw [run_seq p2]
  exact rest_ok (by omega) (by omega) ns [.scr ns, .int i, .int st, .int rs]
end K13

theorem PySem.Challenge.cw_soundborder_k13_known_designs_holds : PySem.Challenge.rw_soundborder_k13_known_designs.Holds := by
  exact K13.holds_of (n := 102) (by decide) fun ns _ => K13.law_ok ns

