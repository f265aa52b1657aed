import PyProof.Rows.All
import Wide.All
import OpenK.AllK
import Wide.FinOn
import PySem.Challenge.RW_oncelinks_k51_whole_steps_of_codes
import HandS.ForMost
import HandS.ForExc
import HandS.TupAny
import HandS.TupLe
import HandS.Text
import HandS.SortInts
import HandS.IsInst
import HandS.CallSlots
import PyProof.ReprRoads
import PyProof.CallFns
import PyProof.FString4
import HandS.HotCalls
import HandS.ExcInitHot
import HandS.ExcIs
import HandS.ExcField
import HandS.HeadHook1
import HandS.Defaults
import HandS.More
import HandS.Style
import HandS.Flow
import HandS.Codes
import HandS.Replace
import HandS.Strs
import HandS.Dict
import HandS.ExcOwn
import HandS.Head0
import HandS.Head1
import HandS.Head2
import HandS.HeadEnd
import HandS.HeadHook2
import HandS.HeadHook3
import HandS.Ends
set_option Elab.async false
set_option linter.all false
set_option maxRecDepth 100000
section
/-! ZA: value trees, the small AST, its executable semantics. -/
namespace Z
abbrev Sg := List Nat
abbrev Ky := Sum Int Sg

/-- value trees: nothing in them changes any more -/
inductive PV where
  | non | bl (b : Bool) | int (i : Int) | str (s : Sg)
  | tup (xs : List PV) | lst (xs : List PV)
  | dk (kvs : List (Ky × PV)) | dt (kvs : List (List Ky × PV))
  | scr (ns : List Int)
  deriving Inhabited
structure Ex where
  cls : Nat
  fs : List (Nat × PV)
/-- what a name may hold: a tree, a cell of the store, a tuple with cells in it, the error that an except clause names -/
inductive LV where
  | pv (p : PV) | ref (n : Nat) | tup (xs : List LV) | exn (e : Ex)
  deriving Inhabited
inductive Cell where
  | lst (live : Bool) (xs : List LV)
  | dk (live : Bool) (kvs : List (Ky × LV))
  | dt (live : Bool) (kvs : List (List Ky × LV))
  | ins (C : Nat) (fs : List (Nat × LV))
  deriving Inhabited
abbrev Store := List Cell
abbrev Slots := List (Option LV)

/-! ### trees -/
mutual
def eqP : PV → PV → Bool
  | .non, .non => true
  | .bl a, .bl b => a == b
  | .bl a, .int j => (if a then 1 else 0) == j
  | .int i, .bl b => i == (if b then 1 else 0)
  | .int i, .int j => i == j
  | .str x, .str y => x == y
  | .lst xs, .lst ys => eqPs xs ys
  | .tup xs, .tup ys => eqPs xs ys
  | _, _ => false
def eqPs : List PV → List PV → Bool
  | [], [] => true
  | x :: xs, y :: ys => eqP x y && eqPs xs ys
  | _, _ => false
end
mutual
/-- fit for ==: no dict in it -/
def eqOk : PV → Bool
  | .non | .bl _ | .int _ | .str _ => true
  | .tup xs | .lst xs => eqOks xs
  | _ => false
def eqOks : List PV → Bool
  | [] => true
  | x :: xs => eqOk x && eqOks xs
end
mutual
def dep : PV → Nat
  | .tup xs | .lst xs => 1 + deps xs
  | _ => 0
def deps : List PV → Nat
  | [] => 0
  | x :: xs => max (dep x) (deps xs)
end
def maxDep : Nat := 500
def opEq (a b : PV) : Option Bool := if eqOk a && eqOk b && decide (min (dep a) (dep b) ≤ maxDep) then some (eqP a b) else none

def flat : PV → Bool
  | .non | .bl _ | .int _ | .str _ => true
  | _ => false
def line : Nat := 16777216

def unpv : List LV → Option (List PV)
  | [] => some []
  | .pv p :: xs => (unpv xs).map (p :: ·)
  | _ :: _ => none
def unpvK {κ : Type} : List (κ × LV) → Option (List (κ × PV))
  | [] => some []
  | (k, .pv p) :: xs => (unpvK xs).map ((k, p) :: ·)
  | _ :: _ => none
theorem unpv_map (xs : List PV) : unpv (xs.map .pv) = some xs := by
  induction xs with
  | nil => rfl
  | cons x xs ih => simp [unpv, ih]
theorem unpv_eq : ∀ {ls : List LV} {xs : List PV}, unpv ls = some xs → ls = xs.map .pv
  | [], xs, h => by simp [unpv] at h; subst h; rfl
  | .pv p :: ls, xs, h => by
    simp only [unpv, Option.map_eq_some_iff] at h
    obtain ⟨ys, h1, h2⟩ := h
    subst h2
    rw [unpv_eq h1]; rfl
  | .ref _ :: _, _, h => by simp [unpv] at h
  | .tup _ :: _, _, h => by simp [unpv] at h
  | .exn _ :: _, _, h => by simp [unpv] at h
theorem unpvK_map {κ : Type} (xs : List (κ × PV)) : unpvK (xs.map fun kv => (kv.1, LV.pv kv.2)) = some xs := by
  induction xs with
  | nil => rfl
  | cons x xs ih => simp [unpvK, ih]
theorem unpvK_eq {κ : Type} : ∀ {ls : List (κ × LV)} {xs : List (κ × PV)}, unpvK ls = some xs → ls = xs.map fun kv => (kv.1, LV.pv kv.2)
  | [], xs, h => by simp [unpvK] at h; subst h; rfl
  | (k, .pv p) :: ls, xs, h => by
    simp only [unpvK, Option.map_eq_some_iff] at h
    obtain ⟨ys, h1, h2⟩ := h
    subst h2
    rw [unpvK_eq h1]; rfl
  | (_, .ref _) :: _, _, h => by simp [unpvK] at h
  | (_, .tup _) :: _, _, h => by simp [unpvK] at h
  | (_, .exn _) :: _, _, h => by simp [unpvK] at h

/-- a tree where there is one: what a name holds, as it stands now -/
def peek (st : Store) : LV → Option PV
  | .pv p => some p
  | .ref n => match st[n]? with
    | some (.lst _ xs) => (unpv xs).map .lst
    | some (.dk _ kvs) => (unpvK kvs).map .dk
    | some (.dt _ kvs) => (unpvK kvs).map .dt
    | _ => none
  | .tup _ => none
  | .exn _ => none
def peeks (st : Store) : List LV → Option (List PV)
  | [] => some []
  | v :: vs => match peek st v with
    | some p => (peeks st vs).map (p :: ·)
    | none => none
def mkTup (vs : List LV) : LV := match unpv vs with
  | some ps => .pv (.tup ps)
  | none => .tup vs

/-! ### texts -/
def mkS (s : Sg) : PySem.Str := ⟨s.toArray⟩
def okS (s : Sg) : Bool := s.all fun c => decide (c < 0x110000)
section
open PySem PySem.Spec
mutual
def toD : PV → PyData
  | .non => .none
  | .bl b => .bool b
  | .int i => .int i
  | .str s => .str (mkS s)
  | .tup xs => .tuple (toDs xs)
  | .lst xs => .list (toDs xs)
  | _ => .none
def toDs : List PV → List PyData
  | [] => []
  | x :: xs => toD x :: toDs xs
end
end
/-- the text of a tree -/
def shown (p : PV) : Sg := (PySem.PyData.shown (toD p)).cps.toList
def joinS (a : Sg) : List Sg → Sg
  | [] => []
  | [x] => x
  | x :: y :: r => x ++ (a ++ joinS a (y :: r))
def strsOf : List PV → Option (List Sg)
  | [] => some []
  | .str s :: xs => (strsOf xs).map (s :: ·)
  | _ :: _ => none
/-! ### operations on trees -/
inductive BO where
  | add | sub | mul | fdiv | mod | pow
  deriving DecidableEq
inductive CO where
  | eq | ne | lt | le | gt | ge | in_ | nin | is_ | isnt
  deriving DecidableEq
inductive Ty where
  | int | bool | str | list | tuple
  deriving DecidableEq
inductive BI where
  | len | abs | int | list | sum | all | any | repr | str | max | min | sorted | tuple
  deriving DecidableEq
/-- methods of built-in types -/
inductive BM where
  | append | get2 | pop0 | join | extend | insert | index | sindex | popAt
  deriving DecidableEq
inductive IK where
  | val | range | enum
  deriving DecidableEq

def mulOk (i j : Int) : Bool := (decide (-(2 ^ 64) < i) && decide (i < 2 ^ 64)) || (decide (-(2 ^ 64) < j) && decide (j < 2 ^ 64))
def powOk (i j : Int) : Bool := decide (0 ≤ j) && decide (j ≤ 1000000) && decide (i.natAbs < 2 ^ 64)
def divOk (j : Int) : Bool := decide (0 < j) && decide (j < 1073741824)
def doBin : BO → PV → PV → Option PV
  | .add, .int i, .int j => some (.int (i + j))
  | .add, .str x, .str y => if x.length + y.length ≤ line then some (.str (x ++ y)) else none
  | .add, .lst xs, .lst ys => if xs.length + ys.length ≤ line then some (.lst (xs ++ ys)) else none
  | .add, .tup xs, .tup ys => if xs.length + ys.length ≤ line then some (.tup (xs ++ ys)) else none
  | .sub, .int i, .int j => some (.int (i - j))
  | .mul, .int i, .int j => if mulOk i j then some (.int (i * j)) else none
  | .mul, .str x, .int k => if -1073741824 < k ∧ k < 1073741824 ∧ x.length * k.toNat ≤ line ∧ x.length ≤ line then some (.str (List.replicate k.toNat x).flatten) else none
  | .fdiv, .int i, .int j => if divOk j then some (.int (i / j)) else none
  | .mod, .int i, .int j => if 0 < j then some (.int (i % j)) else none
  | .pow, .int i, .int j => if powOk i j then some (.int (i ^ j.toNat)) else none
  | _, _, _ => none
def inFlat (x : PV) (xs : List PV) : Option Bool := if flat x && xs.all flat then some (xs.any fun y => eqP y x) else none
def keyK : PV → Option Ky
  | .int i => some (.inl i)
  | .str s => some (.inr s)
  | _ => none
def keyKs : List PV → Option (List Ky)
  | [] => some []
  | x :: xs => match keyK x with
    | some k => (keyKs xs).map (k :: ·)
    | none => none
def keyT : PV → Option (List Ky)
  | .tup xs => keyKs xs
  | _ => none
def look {κ α : Type} [DecidableEq κ] (k : κ) : List (κ × α) → Option α
  | [] => none
  | (j, v) :: r => if j = k then some v else look k r
def has {κ α : Type} [DecidableEq κ] (k : κ) (kvs : List (κ × α)) : Bool := (look k kvs).isSome
def putD {κ α : Type} [DecidableEq κ] (k : κ) (v : α) (kvs : List (κ × α)) : List (κ × α) :=
  if has k kvs then kvs.map fun kv => if kv.1 = k then (kv.1, v) else kv else kvs ++ [(k, v)]
/-- one sign in a text -/
def inText (x y : Sg) : Option Bool := match x with
  | [c] => some (decide (c ∈ y))
  | _ => none
def doCmp : CO → PV → PV → Option Bool
  | .eq, a, b => opEq a b
  | .ne, a, b => (opEq a b).map (!·)
  | .lt, .int i, .int j => some (decide (i < j))
  | .le, .int i, .int j => some (decide (i ≤ j))
  | .gt, .int i, .int j => some (decide (j < i))
  | .ge, .int i, .int j => some (decide (j ≤ i))
  | .lt, .str x, .str y => some (decide (x < y))
  | .le, .str x, .str y => some (decide (x ≤ y))
  | .gt, .str x, .str y => some (decide (y < x))
  | .ge, .str x, .str y => some (decide (y ≤ x))
  | .is_, .bl a, .bl b => some (decide (a = b))
  | .isnt, .bl a, .bl b => some (!decide (a = b))
  | .in_, x, .lst xs => inFlat x xs
  | .in_, x, .tup xs => inFlat x xs
  | .nin, x, .lst xs => (inFlat x xs).map (!·)
  | .nin, x, .tup xs => (inFlat x xs).map (!·)
  | .in_, .str x, .str y => inText x y
  | .nin, .str x, .str y => (inText x y).map (!·)
  | .in_, k, .dk kvs => (keyK k).map fun k => has k kvs
  | .nin, k, .dk kvs => (keyK k).map fun k => !has k kvs
  | .in_, k, .dt kvs => (keyT k).map fun k => has k kvs
  | .nin, k, .dt kvs => (keyT k).map fun k => !has k kvs
  | _, _, _ => none
def ixN (n : Nat) (i : Int) : Option Nat := if 0 ≤ i then (if i < n then some i.toNat else none) else if -(n : Int) ≤ i then some (i + n).toNat else none
def atI {α : Type} (xs : List α) (i : Int) : Option α := match ixN xs.length i with
  | some j => xs[j]?
  | none => none
def doIdx : PV → PV → Option PV
  | .lst xs, .int i => atI xs i
  | .tup xs, .int i => atI xs i
  | .str s, .int i => if s.length ≤ line then (atI s i).map fun c => .str [c] else none
  | .dk kvs, k => match keyK k with
    | some k => look k kvs
    | none => none
  | .dt kvs, k => match keyT k with
    | some k => look k kvs
    | none => none
  | _, _ => none
def sIx (n d : Nat) : Option Int → Nat
  | none => d
  | some v => if v < 0 then (v + (n : Int)).toNat else min v.toNat n
def cut {α : Type} (xs : List α) (lo hi : Option Int) : List α := (xs.drop (sIx xs.length 0 lo)).take (sIx xs.length xs.length hi - sIx xs.length 0 lo)
def doSlc (a : PV) (lo hi : Option Int) : Option PV := match a with
  | .lst xs => some (.lst (cut xs lo hi))
  | .tup xs => some (.tup (cut xs lo hi))
  | .str s => if s.length ≤ line then some (.str (cut s lo hi)) else none
  | _ => none
/-- truth of a tree -/
def tru : PV → Option Bool
  | .non => some false
  | .bl b => some b
  | .int i => some (i != 0)
  | .str s => if s.length ≤ line then some (!s.isEmpty) else none
  | .lst xs => some (!xs.isEmpty)
  | .tup xs => some (!xs.isEmpty)
  | .dk kvs => some (!kvs.isEmpty)
  | _ => none
def isTy : Ty → PV → Option Bool
  | t, .non => some false
  | t, .bl _ => some (t == .bool || t == .int)
  | t, .int _ => some (t == .int)
  | t, .str _ => some (t == .str)
  | t, .lst _ => some (t == .list)
  | t, .tup _ => some (t == .tuple)
  | _, _ => none
def isSq : PV → Bool
  | .lst _ | .tup _ | .str _ | .non => true
  | _ => false
def intsOf : List PV → Option (List Int)
  | [] => some []
  | .int i :: xs => (intsOf xs).map (i :: ·)
  | _ :: _ => none
def boolsOf : List PV → Option (List Bool)
  | [] => some []
  | .bl b :: xs => (boolsOf xs).map (b :: ·)
  | _ :: _ => none
/-! ### sorting -/
def insA {α : Type} (le : α → α → Bool) (x : α) : List α → List α
  | [] => [x]
  | y :: ys => if le x y then x :: y :: ys else y :: insA le x ys
def srtA {α : Type} (le : α → α → Bool) : List α → List α
  | [] => []
  | x :: xs => insA le x (srtA le xs)
def srtI (ns : List Int) : List Int := srtA (fun a b => decide (a ≤ b)) ns
def srtS (ss : List Sg) : List Sg := srtA (fun a b => decide (a ≤ b)) ss
def doSort (xs : List PV) : Option PV := match intsOf xs with
  | some ns => some (.lst ((srtI ns).map .int))
  | none => match strsOf xs with
    | some ss => some (.lst ((srtS ss).map .str))
    | none => none
/-- the text of a number -/
def numS (i : Int) : Sg := (PySem.Str.ofString (toString i)).cps.toList
def maxI : List Int → Int
  | [] => 0
  | n :: ns => ns.foldl max n
def minI : List Int → Int
  | [] => 0
  | n :: ns => ns.foldl min n
def doRepr (p : PV) : Option PV :=
  let s := shown p
  if isSq p && eqOk p && decide (dep p ≤ maxDep) && PySem.PyData.showable (toD p) && okS s && decide (s.length ≤ line) then some (.str s) else none
def doBI : BI → List PV → Option PV
  | .len, [.lst xs] => some (.int xs.length)
  | .len, [.tup xs] => some (.int xs.length)
  | .len, [.str s] => if s.length ≤ line then some (.int s.length) else none
  | .abs, [.int i] => some (.int (if i < 0 then -i else i))
  | .int, [.int i] => some (.int i)
  | .int, [.bl b] => some (.int (if b then 1 else 0))
  | .int, [.str s] => if s.length ≤ 640 then (PySem.intText? (mkS s)).map .int else none
  | .list, [.lst xs] => some (.lst xs)
  | .list, [.tup xs] => some (.lst xs)
  | .list, [.scr ns] => some (.lst (ns.map .int))
  | .sum, [.lst xs] => (intsOf xs).map fun ns => .int ns.sum
  | .all, [.lst xs] => (boolsOf xs).map fun bs => .bl (bs.all id)
  | .any, [.lst xs] => (boolsOf xs).map fun bs => .bl (bs.any id)
  | .repr, [p] => doRepr p
  | .str, [.int i] => if i.natAbs.log2 < 1920 ∧ okS (numS i) = true then some (.str (numS i)) else none
  | .max, [.int i, .int j] => some (.int (max i j))
  | .min, [.int i, .int j] => some (.int (min i j))
  | .max, [.lst xs] => match intsOf xs with
    | some (n :: ns) => some (.int (maxI (n :: ns)))
    | _ => none
  | .min, [.lst xs] => match intsOf xs with
    | some (n :: ns) => some (.int (minI (n :: ns)))
    | _ => none
  | .sorted, [.lst xs] => doSort xs
  | .tuple, [.lst xs] => some (.tup xs)
  | .tuple, [.tup xs] => some (.tup xs)
  | _, _ => none
def rangeOk (i : Int) : Bool := decide (-(2 ^ 62) ≤ i) && decide (i < 2 ^ 62)
def upto (lo : Int) : Nat → List Int
  | 0 => []
  | n + 1 => lo :: upto (lo + 1) n
def downto (lo : Int) : Nat → List Int
  | 0 => []
  | n + 1 => lo :: downto (lo - 1) n
def numbered : Nat → List PV → List PV
  | _, [] => []
  | i, x :: xs => .tup [.int (i : Nat), x] :: numbered (i + 1) xs
/-- what is walked -/
def items : IK → List PV → Option (List PV)
  | .val, [.lst xs] => some xs
  | .val, [.tup xs] => some xs
  | .val, [.str s] => if s.length ≤ line then some (s.map fun c => .str [c]) else none
  | .enum, [.lst xs] => some (numbered 0 xs)
  | .enum, [.str s] => if s.length ≤ line then some (numbered 0 (s.map fun c => .str [c])) else none
  | .range, [.int j] => if rangeOk j then some ((upto 0 j.toNat).map .int) else none
  | .range, [.int i, .int j] => if rangeOk i && rangeOk j then some ((upto i (j - i).toNat).map .int) else none
  | .range, [.int i, .int j, .int k] => if rangeOk i && rangeOk j && decide (k = -1) then some ((downto i (i - j).toNat).map .int) else none
  | _, _ => none
end Z
end

section
namespace Z
/-- targets -/
inductive MG where
  | nm (i : Nat)
  | tp (gs : List MG)
  deriving Inhabited
mutual
inductive ME where
  | var (i : Nat)
  | lit (p : PV)
  | glb (g : Nat)
  | tup (es : List ME)
  | lst (live : Bool) (es : List ME)
  | dnew (t : Bool)
  | bin (op : BO) (a b : ME)
  | cmp (op : CO) (a b : ME)
  | boolop (isAnd : Bool) (es : List ME)
  | not (a : ME)
  | neg (a : ME)
  | ite (c : MT) (a b : ME)
  | idx (a i : ME)
  | slc (a : ME) (l : Bool) (lo : ME) (h : Bool) (hi : ME)
  | rev (a : ME)
  | tabI (t : Nat) (i : ME)
  | tabL (t : Nat)
  | tabX (t : Nat) (es : List ME)
  | isn (neg : Bool) (a : ME)
  | isi (t : Ty) (a : ME)
  | bi (b : BI) (es : List ME)
  | bm (m : BM) (r : ME) (es : List ME)
  | call (f : Nat) (es : List ME)
  | lc (live : Bool) (elt : ME) (tg : MG) (ik : IK) (src : List ME) (ifs : List MT) (own : List Nat)
  | frz (a : ME)
  | fld (C : Nat) (a : ME) (f : Nat)
  | mcall (C f : Nat) (a : ME) (es : List ME)
  | new (C f : Nat) (es : List ME)
  | xfld (i f : Nat)
  | xisi (i C : Nat)
  | dsel (kvs : List (Ky × PV)) (i : ME)
  | tabD (t : Nat) (i : ME)
  | dcopy (a : ME)
  | dpairs (a : ME)
  | lcopy (a : ME)
  | slcL (a : ME) (l : Bool) (lo : ME) (h : Bool) (hi : ME)
  | cat (a b : ME)
  | lcW (live : Bool) (elt : ME) (tg : MG) (src : ME) (ifs : List MT) (own : List Nat)
inductive MT where
  | val (e : ME)
  | cmp (op : CO) (a b : ME)
  | chain (o1 o2 : CO) (a b c : ME)
  | isn (neg : Bool) (a : ME)
  | boolop (isAnd : Bool) (ts : List MT)
  | not (t : MT)
end
instance : Inhabited ME := ⟨.lit .non⟩
instance : Inhabited MT := ⟨.val default⟩
inductive MS where
  | ex (e : ME)
  | asg (g : MG) (e : ME)
  | asgI (a i e : ME)
  | aug (i : Nat) (op : BO) (e : ME)
  | augI (a i : ME) (op : BO) (e : ME)
  | iff (c : MT) (a b : List MS)
  | whl (c : MT) (a : List MS)
  | for_ (g : MG) (ik : IK) (src : List ME) (a : List MS)
  | forW (g : MG) (src : ME) (a : List MS)
  | ret (e : ME)
  | retN
  | fset (C : Nat) (a : ME) (f : Nat) (e : ME)
  | faug (C : Nat) (a : ME) (f : Nat) (op : BO) (e : ME)
  | raise (C : Nat) (es : List ME)
  | tryE (body : List MS) (C : Nat) (slot : Option Nat) (suite : List MS)
  | brk
  | cnt
  | pass
  deriving Inhabited

/-! ### results -/
inductive ER where
  | ok (v : LV) (st : Store)
  | ex (e : Ex) (st : Store)
inductive ERs where
  | ok (vs : List LV) (st : Store)
  | ex (e : Ex) (st : Store)
inductive ET where
  | ok (b : Bool) (st : Store)
  | ex (e : Ex) (st : Store)
inductive FR where
  | nx (φ : Slots) (st : Store)
  | rt (v : LV) (st : Store)
  | bk (φ : Slots) (st : Store)
  | ct (φ : Slots) (st : Store)
  | ex (e : Ex) (φ : Slots) (st : Store)
abbrev R := Option ER
def R.bind (x : Option ER) (f : LV → Store → Option ER) : Option ER := match x with
  | some (.ok v st) => f v st
  | some (.ex e st) => some (.ex e st)
  | none => none
def R.bs (x : Option ER) (f : LV → Store → Option ERs) : Option ERs := match x with
  | some (.ok v st) => f v st
  | some (.ex e st) => some (.ex e st)
  | none => none
def R.bt (x : Option ER) (f : LV → Store → Option ET) : Option ET := match x with
  | some (.ok v st) => f v st
  | some (.ex e st) => some (.ex e st)
  | none => none
def R.bf (φ : Slots) (x : Option ER) (f : LV → Store → Option FR) : Option FR := match x with
  | some (.ok v st) => f v st
  | some (.ex e st) => some (.ex e φ st)
  | none => none
def Rs.bind (x : Option ERs) (f : List LV → Store → Option ER) : Option ER := match x with
  | some (.ok v st) => f v st
  | some (.ex e st) => some (.ex e st)
  | none => none
def Rs.bs (x : Option ERs) (f : List LV → Store → Option ERs) : Option ERs := match x with
  | some (.ok v st) => f v st
  | some (.ex e st) => some (.ex e st)
  | none => none
def Rs.bf (φ : Slots) (x : Option ERs) (f : List LV → Store → Option FR) : Option FR := match x with
  | some (.ok v st) => f v st
  | some (.ex e st) => some (.ex e φ st)
  | none => none
def T.bind (x : Option ET) (f : Bool → Store → Option ER) : Option ER := match x with
  | some (.ok v st) => f v st
  | some (.ex e st) => some (.ex e st)
  | none => none
def T.bt (x : Option ET) (f : Bool → Store → Option ET) : Option ET := match x with
  | some (.ok v st) => f v st
  | some (.ex e st) => some (.ex e st)
  | none => none
def T.bf (φ : Slots) (x : Option ET) (f : Bool → Store → Option FR) : Option FR := match x with
  | some (.ok v st) => f v st
  | some (.ex e st) => some (.ex e φ st)
  | none => none
def optL (there : Bool) (x : LV) : Option (Option Int) := if there then (match x with
  | .pv (.int i) => some (some i)
  | _ => none) else some none
def okP (st : Store) (p : Option PV) : Option ER := match p with
  | some p => some (.ok (.pv p) st)
  | none => none

/-- a list of pairs, as keys and values -/
def pairsK : List PV → Option (List (Ky × PV))
  | [] => some []
  | .tup [k, v] :: r => match keyK k, pairsK r with
    | some k, some m => some ((k, v) :: m)
    | _, _ => none
  | _ => none
def mergeD (acc : List (Ky × LV)) (m : List (Ky × PV)) : List (Ky × LV) := m.foldl (fun acc kv => putD kv.1 (.pv kv.2) acc) acc
/-- from now on nothing may change it -/
def frz (v : LV) (st : Store) : Option (PV × Store) := match v with
  | .pv p => some (p, st)
  | .ref n => match st[n]? with
    | some (.lst _ xs) => match unpv xs with
      | some ps => some (.lst ps, st.set n (.lst false xs))
      | none => none
    | some (.dk _ kvs) => match unpvK kvs with
      | some ps => some (.dk ps, st.set n (.dk false kvs))
      | none => none
    | some (.dt _ kvs) => match unpvK kvs with
      | some ps => some (.dt ps, st.set n (.dt false kvs))
      | none => none
    | _ => none
  | .tup _ => none
  | .exn _ => none

/-! ### the store behind a call -/
mutual
def below (n : Nat) : LV → Bool
  | .pv _ => true
  | .ref m => decide (m < n)
  | .tup xs => belows n xs
  | .exn _ => true
def belows (n : Nat) : List LV → Bool
  | [] => true
  | x :: xs => below n x && belows n xs
end
def Cell.below (n : Nat) : Cell → Bool
  | .lst _ xs => belows n xs
  | .dk _ kvs => belows n (kvs.map (·.2))
  | .dt _ kvs => belows n (kvs.map (·.2))
  | .ins _ fs => belows n (fs.map (·.2))
/-- cells that nothing leads to any more go -/
def trunc (n : Nat) (ok : Bool) (st : Store) : Store := if ok && (st.take n).all (·.below n) then st.take n else st

/-! ### what the semantics leans on -/
structure Sem where
  cal : Nat → List LV → Store → Option ER
  glb : Nat → Option PV
  shr : Nat → Bool
  wf : Nat
  /-- how many fields have names -/
  nf : Nat
  /-- calls one less deep: an __init__'s -/
  cal1 : Nat → List LV → Store → Option ER
  /-- an error's parameters and fields; is an error of the first class one of the second -/
  xin : Nat → Option (Nat × List (Nat × Nat))
  sub : Nat → Nat → Bool
  /-- a module's tuples of texts -/
  tab : Nat → Option (List Sg)
  /-- a module's dicts -/
  dtab : Nat → Option (List (Sg × PV))
def Sem.call (S : Sem) (f : Nat) (vs : List LV) (st : Store) : Option ER :=
  match S.shr f, unpv vs with
  | false, some _ => match S.cal f vs [] with
    | some (.ok v st1) => (frz v st1).map fun p => .ok (.pv p.1) st
    | some (.ex e _) => some (.ex e st)
    | none => none
  | _, _ => match S.cal f vs st with
    | some (.ok v st1) => some (.ok v (trunc st.length (below st.length v) st1))
    | some (.ex e st1) => some (.ex e (trunc st.length true st1))
    | none => none

/-- a new instance -/
def Sem.make (S : Sem) (C f : Nat) (vs : List LV) (st : Store) : Option ER := match S.cal1 f (.ref st.length :: vs) (st ++ [.ins C []]) with
  | some (.ok (.pv .non) st1) => some (.ok (.ref st.length) (trunc (st.length + 1) true st1))
  | some (.ex e st1) => some (.ex e (trunc st.length true st1))
  | _ => none
def isIns (C nf : Nat) (x : LV) (st : Store) : Bool := match x with
  | .ref n => (match st[n]? with
    | some (.ins D fs) => D == C && fs.all fun q => decide (q.1 < nf)
    | _ => false)
  | _ => false
def putFl (f : Nat) (v : LV) : List (Nat × LV) → List (Nat × LV)
  | [] => [(f, v)]
  | (g, x) :: r => if g = f then (g, v) :: r else (g, x) :: putFl f v r
def getF (x : LV) (f : Nat) (st : Store) : Option ER := match x with
  | .ref n => match st[n]? with
    | some (.ins _ fs) => match look f fs with
      | some v => some (.ok v st)
      | none => none
    | _ => none
  | _ => none
def setFl (x : LV) (f : Nat) (v : LV) (st : Store) : Option Store := match x with
  | .ref n => match st[n]? with
    | some (.ins C fs) => if fs.length < 1000 then some (st.set n (.ins C (putFl f v fs))) else none
    | _ => none
  | _ => none
mutual
def asgG : MG → LV → Slots → Option Slots
  | .nm i, v, φ => some (φ.set i (some v))
  | .tp gs, v, φ => match v with
    | .pv (.tup xs) => asgGs gs (xs.map .pv) φ
    | .pv (.lst xs) => asgGs gs (xs.map .pv) φ
    | .tup xs => asgGs gs xs φ
    | _ => none
def asgGs : List MG → List LV → Slots → Option Slots
  | [], [], φ => some φ
  | g :: gs, v :: vs, φ => match asgG g v φ with
    | some φ => asgGs gs vs φ
    | none => none
  | _, _, _ => none
end
def wipeL (φ : Slots) : List Nat → Slots
  | [] => φ
  | v :: vs => (wipeL φ vs).set v none
def noX : Option ERs → Option (List LV × Store)
  | some (.ok vs st) => some (vs, st)
  | _ => none
def lcLoop (step : PV → Store → Option ERs) : List PV → Store → Option (List LV × Store)
  | [], st => some ([], st)
  | x :: xs, st => match noX (step x st) with
    | some (ys, st) => match lcLoop step xs st with
      | some (zs, st) => some (ys ++ zs, st)
      | none => none
    | none => none
/-- a list that is walked where it stands: fuel, the cell, the place -/
def lcWalk (step : LV → Store → Option ERs) (n : Nat) : Nat → Nat → Store → Option (List LV × Store)
  | 0, _, _ => none
  | f + 1, i, st => match st[n]? with
    | some (.lst _ ys) => match ys[i]? with
      | none => some ([], st)
      | some x => match noX (step x st) with
        | some (zs, st) => match lcWalk step n f (i + 1) st with
          | some (ws, st) => some (zs ++ ws, st)
          | none => none
        | none => none
    | _ => none
/-- how many turns at most -/
def walkF (n : Nat) (st : Store) : Nat := match st[n]? with
  | some (.lst _ ys) => ys.length + 1001
  | _ => 0
def mkLst (live : Bool) (vs : List LV) (st : Store) : Option ER :=
  if vs.length ≤ line then
    if live then some (.ok (.ref st.length) (st ++ [.lst true vs])) else match unpv vs with
      | some ps => some (.ok (.pv (.lst ps)) st)
      | none => none
  else none
def sq (st : Store) : LV → Option (List LV)
  | .ref n => match st[n]? with
    | some (.lst _ xs) => some xs
    | _ => none
  | .pv (.lst ps) => some (ps.map .pv)
  | _ => none
/-- what a method of a built-in type may be called on -/
def bmOk (m : BM) (x : LV) (st : Store) : Bool := match m, x with
  | .append, .ref n => (match st[n]? with
    | some (.lst ..) => true
    | _ => false)
  | .pop0, .ref n | .popAt, .ref n | .extend, .ref n | .insert, .ref n => (match st[n]? with
    | some (.lst ..) => true
    | _ => false)
  | .index, .ref n => (match st[n]? with
    | some (.lst ..) => true
    | _ => false)
  | .index, .pv (.lst _) => true
  | .join, .pv (.str _) => true
  | .sindex, .pv (.str _) => true
  | .get2, .pv (.dk _) => true
  | .get2, .pv (.dt _) => true
  | .get2, .ref n => (match st[n]? with
    | some (.dk ..) => true
    | some (.dt ..) => true
    | _ => false)
  | _, _ => false
/-- v.m(..) of built-in types -/
def doBM (m : BM) (v : LV) (vs : List LV) (st : Store) : Option ER := match m, vs with
  | .append, [x] => match v with
    | .ref n => match st[n]? with
      | some (.lst true xs) => if xs.length < line then some (.ok (.pv .non) (st.set n (.lst true (xs ++ [x])))) else none
      | _ => none
    | _ => none
  | .pop0, [] => match v with
    | .ref n => match st[n]? with
      | some (.lst true xs) => match xs.getLast? with
        | some y => some (.ok y (st.set n (.lst true xs.dropLast)))
        | none => none
      | _ => none
    | _ => none
  | .popAt, [i] => match v, i with
    | .ref n, .pv (.int i) => match st[n]? with
      | some (.lst true xs) => match ixN xs.length i with
        | some j => match xs[j]? with
          | some y => if xs.length ≤ line then some (.ok y (st.set n (.lst true (xs.eraseIdx j)))) else none
          | none => none
        | none => none
      | _ => none
    | _, _ => none
  | .sindex, [x] => match v, x with
    | .pv (.str a), .pv (.str b) => match PySem.Builtin.Str.occurrences (mkS a) (mkS b) 0 a.length 1 with
      | i :: _ => some (.ok (.pv (.int (i : Nat))) st)
      | [] => none
    | _, _ => none
  | .extend, [x] => match v with
    | .ref n => match st[n]?, sq st x with
      | some (.lst true xs), some ys => if xs.length + ys.length ≤ line then some (.ok (.pv .non) (st.set n (.lst true (xs ++ ys)))) else none
      | _, _ => none
    | _ => none
  | .insert, [i, y] => match v, i with
    | .ref n, .pv (.int i) => match st[n]? with
      | some (.lst true xs) => if xs.length < line ∧ 0 ≤ i ∧ i < 2 ^ 63 then some (.ok (.pv .non) (st.set n (.lst true (xs.take i.toNat ++ [y] ++ xs.drop i.toNat)))) else none
      | _ => none
    | _, _ => none
  | .index, [x] => match peek st v, peek st x with
    | some (.lst xs), some x => if flat x && xs.all flat then match xs.findIdx? fun y => eqP y x with
        | some j => some (.ok (.pv (.int (j : Nat))) st)
        | none => none
      else none
    | _, _ => none
  | .join, [x] => match v, peek st x with
    | .pv (.str a), some (.lst xs) => match strsOf xs with
      | some ss => if (ss.map (·.length)).sum + ss.length * a.length ≤ line then some (.ok (.pv (.str (joinS a ss))) st) else none
      | none => none
    | _, _ => none
  | .get2, [k, d] => match peek st v, peek st k, d with
    | some (.dk kvs), some k, .pv d => match keyK k with
      | some k => some (.ok (.pv ((look k kvs).getD d)) st)
      | none => none
    | some (.dt kvs), some k, .pv d => match keyT k with
      | some k => some (.ok (.pv ((look k kvs).getD d)) st)
      | none => none
    | _, _, _ => none
  | _, _ => none
/-- v[i] -/
def getI (v i : LV) (st : Store) : Option ER := match v with
  | .ref n => match st[n]?, i with
    | some (.lst _ xs), .pv (.int i) => match atI xs i with
      | some x => some (.ok x st)
      | none => none
    | some (.dk _ kvs), .pv k => match keyK k with
      | some k => match look k kvs with
        | some x => some (.ok x st)
        | none => none
      | none => none
    | some (.dt _ kvs), .pv k => match keyT k with
      | some k => match look k kvs with
        | some x => some (.ok x st)
        | none => none
      | none => none
    | _, _ => none
  | .pv p => match i with
    | .pv i => okP st (doIdx p i)
    | _ => none
  | .tup xs => match i with
    | .pv (.int i) => match atI xs i with
      | some x => some (.ok x st)
      | none => none
    | _ => none
  | .exn _ => none
/-- v[i] = x -/
def setI (v i x : LV) (st : Store) : Option Store := match v with
  | .ref n => match st[n]?, i with
    | some (.lst true xs), .pv (.int i) => match ixN xs.length i with
      | some j => some (st.set n (.lst true (xs.set j x)))
      | none => none
    | some (.dk true kvs), .pv k => match keyK k with
      | some k => if kvs.length < line then some (st.set n (.dk true (putD k x kvs))) else none
      | none => none
    | some (.dt true kvs), .pv k => match keyT k with
      | some k => if kvs.length < line then some (st.set n (.dt true (putD k x kvs))) else none
      | none => none
    | _, _ => none
  | _ => none
def bin (op : BO) (a b : LV) (st : Store) : Option ER := match peek st a, peek st b with
  | some x, some y => okP st (doBin op x y)
  | _, _ => none
def cmp (op : CO) (a b : LV) (st : Store) : Option ER := match peek st a, peek st b with
  | some x, some y => (doCmp op x y).map fun c => .ok (.pv (.bl c)) st
  | _, _ => none
def cmpT (op : CO) (a b : LV) (st : Store) : Option ET := match peek st a, peek st b with
  | some x, some y => (doCmp op x y).map fun c => .ok c st
  | _, _ => none
/-- how long a list or tuple is whose items need not be trees -/
def lenL (a : LV) (st : Store) : Option Nat := match a with
  | .ref n => (match st[n]? with
    | some (.lst _ xs) => some xs.length
    | _ => none)
  | .tup xs => some xs.length
  | _ => none
def lenB (b : BI) (vs : List LV) (st : Store) : Option Nat := match b, vs with
  | .len, [v] => lenL v st
  | _, _ => none
def truL (a : LV) (st : Store) : Option Bool := match lenL a st with
  | some n => some (n != 0)
  | none => match peek st a with
  | some x => tru x
  | none => none
def optI : Option LV → Option (Option Int)
  | none => some none
  | some (.pv (.int i)) => some (some i)
  | _ => none

section
variable (S : Sem)
mutual
def evE : ME → Slots → Store → Option ER
  | .var i, φ, st => match φ[i]? with
    | some (some (.exn _)) => none
    | some (some v) => some (.ok v st)
    | _ => none
  | .lit p, _, st => some (.ok (.pv p) st)
  | .glb g, _, st => okP st (S.glb g)
  | .tup es, φ, st => Rs.bind (evEs es φ st) fun vs st => if vs.length ≤ line then some (.ok (mkTup vs) st) else none
  | .lst live es, φ, st => Rs.bind (evEs es φ st) fun vs st => mkLst live vs st
  | .dnew t, _, st => some (.ok (.ref st.length) (st ++ [if t then .dt true [] else .dk true []]))
  | .bin op a b, φ, st => R.bind (evE a φ st) fun x st => R.bind (evE b φ st) fun y st => bin op x y st
  | .cmp op a b, φ, st => R.bind (evE a φ st) fun x st => R.bind (evE b φ st) fun y st => cmp op x y st
  | .boolop c es, φ, st => evB c es φ st
  | .not a, φ, st => R.bind (evE a φ st) fun x st => match truL x st with
    | some b => some (.ok (.pv (.bl (!b))) st)
    | none => none
  | .neg a, φ, st => R.bind (evE a φ st) fun x st => match x with
    | .pv (.int i) => some (.ok (.pv (.int (-i))) st)
    | _ => none
  | .ite c a b, φ, st => T.bind (evT c φ st) fun d st => if d then evE a φ st else evE b φ st
  | .idx a i, φ, st => R.bind (evE a φ st) fun x st => R.bind (evE i φ st) fun y st => getI x y st
  | .slc a l lo h hi, φ, st => R.bind (evE a φ st) fun x st => R.bind (if l then evE lo φ st else some (.ok (.pv .non) st)) fun lv st => match optL l lv with
      | some lo => R.bind (if h then evE hi φ st else some (.ok (.pv .non) st)) fun hv st => match optL h hv, peek st x with
        | some hi, some x => okP st (doSlc x lo hi)
        | _, _ => none
      | none => none
  | .tabI t i, φ, st => R.bind (evE i φ st) fun y st => match S.tab t, y with
    | some ps, .pv (.int i) => okP st ((atI ps i).map .str)
    | _, _ => none
  | .tabL t, φ, st => (S.tab t).map fun ps => .ok (.pv (.int (ps.length : Nat))) st
  | .tabX t es, φ, st => Rs.bind (evEs es φ st) fun vs st => match S.tab t, vs with
    | some ps, [.pv (.str z)] => (ps.findIdx? fun x => decide (x = z)).map fun j => .ok (.pv (.int (j : Nat))) st
    | _, _ => none
  | .rev a, φ, st => R.bind (evE a φ st) fun x st => match x with
    | .pv (.str s) => if s.length ≤ 2 then some (.ok (.pv (.str s.reverse)) st) else none
    | .pv (.tup xs) => if xs.length ≤ line then some (.ok (.pv (.tup xs.reverse)) st) else none
    | .pv (.lst xs) => some (.ok (.pv (.lst xs.reverse)) st)
    | _ => none
  | .isn neg a, φ, st => R.bind (evE a φ st) fun x st => match x with
    | .pv .non => some (.ok (.pv (.bl (!neg))) st)
    | _ => some (.ok (.pv (.bl neg)) st)
  | .isi t a, φ, st => R.bind (evE a φ st) fun x st => match peek st x with
    | some x => (isTy t x).map fun b => .ok (.pv (.bl b)) st
    | none => none
  | .bi b es, φ, st => Rs.bind (evEs es φ st) fun vs st => match lenB b vs st with
    | some n => some (.ok (.pv (.int (n : Int))) st)
    | none => match peeks st vs with
      | some ps => okP st (doBI b ps)
      | none => none
  | .bm m r es, φ, st => R.bind (evE r φ st) fun x st => if bmOk m x st then Rs.bind (evEs es φ st) fun vs st => doBM m x vs st else none
  | .call f es, φ, st => Rs.bind (evEs es φ st) fun vs st => S.call f vs st
  | .lc live elt tg ik src ifs own, φ, st => Rs.bind (evEs src φ st) fun vs st => match unpv vs with
    | some ps => match items ik ps with
      | some xs => match lcLoop (fun x st => match asgG tg (.pv x) (wipeL φ own) with
          | some φ1 => evIf ifs φ1 st fun st => R.bs (evE elt φ1 st) fun y st => some (.ok [y] st)
          | none => none) xs st with
        | some (vs, st) => mkLst live vs st
        | none => none
      | none => none
    | none => none
  | .frz a, φ, st => R.bind (evE a φ st) fun x st => (frz x st).map fun p => .ok (.pv p.1) p.2
  | .fld C a f, φ, st => R.bind (evE a φ st) fun x st => if isIns C S.nf x st then getF x f st else none
  | .mcall C f a es, φ, st => R.bind (evE a φ st) fun x st => if isIns C S.nf x st then Rs.bind (evEs es φ st) fun vs st => S.call f (x :: vs) st else none
  | .new C f es, φ, st => Rs.bind (evEs es φ st) fun vs st => S.make C f vs st
  | .xfld i f, φ, st => match φ[i]? with
    | some (some (.exn e)) => match S.xin e.cls with
      | some nf => if nf.2.any fun q => q.1 == f then okP st (look f e.fs) else none
      | none => none
    | _ => none
  | .xisi i C, φ, st => match φ[i]? with
    | some (some (.exn e)) => match S.xin e.cls with
      | some _ => some (.ok (.pv (.bl (S.sub e.cls C))) st)
      | none => none
    | _ => none
  | .dsel kvs i, φ, st => R.bind (evE i φ st) fun y st => match y with
    | .pv k => match keyK k with
      | some k => okP st (look k kvs)
      | none => none
    | _ => none
  | .tabD t i, φ, st => R.bind (evE i φ st) fun y st => match S.dtab t, y with
    | some kvs, .pv (.str z) => okP st (look z kvs)
    | _, _ => none
  | .dcopy a, φ, st => R.bind (evE a φ st) fun x st => match peek st x with
    | some (.dk kvs) => some (.ok (.ref st.length) (st ++ [.dk true (kvs.map fun kv => (kv.1, .pv kv.2))]))
    | _ => none
  | .dpairs a, φ, st => R.bind (evE a φ st) fun x st => match peek st x with
    | some (.lst ps) => (match pairsK ps with
      | some m => some (.ok (.ref st.length) (st ++ [.dk true (mergeD [] m)]))
      | none => none)
    | _ => none
  | .slcL a l lo h hi, φ, st => R.bind (evE a φ st) fun x st => R.bind (if l then evE lo φ st else some (.ok (.pv .non) st)) fun lv st => match optL l lv with
      | some lo => R.bind (if h then evE hi φ st else some (.ok (.pv .non) st)) fun hv st => match optL h hv, peek st x with
        | some hi, some (.lst ps) => some (.ok (.ref st.length) (st ++ [.lst true ((cut ps lo hi).map .pv)]))
        | _, _ => none
      | none => none
  | .lcopy a, φ, st => R.bind (evE a φ st) fun x st => match sq st x with
    | some xs => if xs.length ≤ line then some (.ok (.ref st.length) (st ++ [.lst true xs])) else none
    | none => none
  | .cat a b, φ, st => R.bind (evE a φ st) fun x st => R.bind (evE b φ st) fun y st => match sq st x, sq st y with
    | some xs, some ys => if xs.length + ys.length ≤ line then some (.ok (.ref st.length) (st ++ [.lst true (xs ++ ys)])) else none
    | _, _ => none
  | .lcW live elt tg src ifs own, φ, st => R.bind (evE src φ st) fun v st => match v with
    | .ref n => match lcWalk (fun x st => match asgG tg x (wipeL φ own) with
          | some φ1 => evIf ifs φ1 st fun st => R.bs (evE elt φ1 st) fun y st => some (.ok [y] st)
          | none => none) n (walkF n st) 0 st with
        | some (vs, st) => mkLst live vs st
        | none => none
    | _ => none
def evEs : List ME → Slots → Store → Option ERs
  | [], _, st => some (.ok [] st)
  | e :: es, φ, st => R.bs (evE e φ st) fun v st => Rs.bs (evEs es φ st) fun vs st => some (.ok (v :: vs) st)
def evT : MT → Slots → Store → Option ET
  | .boolop c es, φ, st => evBT c es φ st
  | .chain o1 o2 a b c, φ, st => R.bt (evE a φ st) fun x st => R.bt (evE b φ st) fun y st => T.bt (cmpT o1 x y st) fun k st => if k then R.bt (evE c φ st) fun z st => cmpT o2 y z st else some (.ok false st)
  | .not a, φ, st => T.bt (evT a φ st) fun b st => some (.ok (!b) st)
  | .val e, φ, st => R.bt (evE e φ st) fun v st => (truL v st).map fun b => .ok b st
  | .cmp op a b, φ, st => R.bt (evE a φ st) fun x st => R.bt (evE b φ st) fun y st => cmpT op x y st
  | .isn neg a, φ, st => R.bt (evE a φ st) fun x st => match x with
    | .pv .non => some (.ok (!neg) st)
    | _ => some (.ok neg st)
def evB (c : Bool) : List ME → Slots → Store → Option ER
  | [], _, _ => none
  | [e], φ, st => evE e φ st
  | e :: es, φ, st => R.bind (evE e φ st) fun v st => match truL v st with
    | some b => if b == c then evB c es φ st else some (.ok v st)
    | none => none
def evBT (c : Bool) : List MT → Slots → Store → Option ET
  | [], _, _ => none
  | [e], φ, st => evT e φ st
  | e :: es, φ, st => T.bt (evT e φ st) fun b st => if b == c then evBT c es φ st else some (.ok b st)
def evIf : List MT → Slots → Store → (Store → Option ERs) → Option ERs
  | [], _, st, k => k st
  | c :: _, φ, st, k => match evT c φ st with
    | some (.ok true st) => k st
    | some (.ok false st) => some (.ok [] st)
    | some (.ex e st) => some (.ex e st)
    | none => none
end
end
end Z
end

section
namespace Z
example (S : Sem) (p φ st) : evE S (.lit p) φ st = some (.ok (.pv p) st) := rfl
example (S : Sem) (a b φ st) : evE S (.bin .add a b) φ st = R.bind (evE S a φ st) fun x st => R.bind (evE S b φ st) fun y st => bin .add x y st := rfl

def doAug (op : BO) (p q : PV) : Option PV := match op, p with
  | .pow, _ => none
  | .mul, .str _ => none
  | _, .lst _ => none
  | _, .tup _ => none
  | _, _ => doBin op p q
/-- x op= y: a list is made longer in place -/
def augOp (op : BO) (x y : LV) (st : Store) : Option ER := match x with
  | .ref n => match op, st[n]?, sq st y with
    | .add, some (.lst true xs), some ys => if xs.length + ys.length ≤ line then some (.ok (.ref n) (st.set n (.lst true (xs ++ ys)))) else none
    | _, _, _ => none
  | .pv p => match peek st y with
    | some q => okP st (doAug op p q)
    | none => none
  | .tup _ => none
  | .exn _ => none
/-- the fields that an __init__ leaves, the last one ahead -/
def extP (ps : List PV) : List (Nat × PV) → List (Nat × Nat) → Option (List (Nat × PV))
  | acc, [] => some acc
  | acc, (f, i) :: r => match ps[i]? with
    | some p => extP ps ((f, p) :: acc) r
    | none => none
/-- behind an except suite its name is gone -/
def unslot (i : Option Nat) : Option FR → Option FR
  | some (.nx φ st) => some (.nx (match i with
    | some i => φ.set i none
    | none => φ) st)
  | some (.bk φ st) => some (.bk (match i with
    | some i => φ.set i none
    | none => φ) st)
  | some (.ct φ st) => some (.ct (match i with
    | some i => φ.set i none
    | none => φ) st)
  | some (.rt v st) => some (.rt v st)
  | _ => none
def forLoop (step : PV → Slots → Store → Option FR) : List PV → Slots → Store → Option FR
  | [], φ, st => some (.nx φ st)
  | x :: xs, φ, st => match step x φ st with
    | some (.nx φ st) => forLoop step xs φ st
    | some (.ct φ st) => forLoop step xs φ st
    | some (.bk φ st) => some (.nx φ st)
    | r => r
def forWalk (step : LV → Slots → Store → Option FR) (n : Nat) : Nat → Nat → Slots → Store → Option FR
  | 0, _, _, _ => none
  | f + 1, i, φ, st => match st[n]? with
    | some (.lst _ ys) => match ys[i]? with
      | none => some (.nx φ st)
      | some x => match step x φ st with
        | some (.nx φ st) => forWalk step n f (i + 1) φ st
        | some (.ct φ st) => forWalk step n f (i + 1) φ st
        | some (.bk φ st) => some (.nx φ st)
        | r => r
    | _ => none
def whLoop (test : Slots → Store → Option ET) (body : Slots → Store → Option FR) : Nat → Slots → Store → Option FR
  | 0, _, _ => none
  | n + 1, φ, st => T.bf φ (test φ st) fun b st => if b then match body φ st with
      | some (.nx φ st) => whLoop test body n φ st
      | some (.ct φ st) => whLoop test body n φ st
      | some (.bk φ st) => some (.nx φ st)
      | r => r
    else some (.nx φ st)
section
variable (S : Sem)
mutual
def exS : MS → Slots → Store → Option FR
  | .ex e, φ, st => R.bf φ (evE S e φ st) fun _ st => some (.nx φ st)
  | .asg g e, φ, st => R.bf φ (evE S e φ st) fun v st => (asgG g v φ).map fun φ => .nx φ st
  | .asgI a i e, φ, st => R.bf φ (evE S e φ st) fun v st => R.bf φ (evE S a φ st) fun x st => R.bf φ (evE S i φ st) fun y st => (setI x y v st).map fun st => .nx φ st
  | .aug i op e, φ, st => match φ[i]? with
    | some (some x) => R.bf φ (evE S e φ st) fun y st => R.bf φ (augOp op x y st) fun z st => some (.nx (φ.set i (some z)) st)
    | _ => none
  | .augI a i op e, φ, st => R.bf φ (evE S a φ st) fun x st => R.bf φ (evE S i φ st) fun y st => R.bf φ (getI x y st) fun v st => R.bf φ (evE S e φ st) fun w st =>
      R.bf φ (augOp op v w st) fun z st => (setI x y z st).map fun st => .nx φ st
  | .iff c a b, φ, st => T.bf φ (evT S c φ st) fun d st => if d then exSs a φ st else exSs b φ st
  | .whl c a, φ, st => whLoop (evT S c) (exSs a) S.wf φ st
  | .for_ g ik src a, φ, st => Rs.bf φ (evEs S src φ st) fun vs st => match unpv vs with
    | some ps => match items ik ps with
      | some xs => forLoop (fun x φ st => match asgG g (.pv x) φ with
          | some φ => exSs a φ st
          | none => none) xs φ st
      | none => none
    | none => none
  | .forW g src a, φ, st => R.bf φ (evE S src φ st) fun v st => match v with
    | .ref n => forWalk (fun x φ st => match asgG g x φ with
          | some φ => exSs a φ st
          | none => none) n (walkF n st) 0 φ st
    | _ => none
  | .ret e, φ, st => R.bf φ (evE S e φ st) fun v st => some (.rt v st)
  | .retN, _, st => some (.rt (.pv .non) st)
  | .fset C a f e, φ, st => R.bf φ (evE S e φ st) fun v st => R.bf φ (evE S a φ st) fun x st => if isIns C S.nf x st then (setFl x f v st).map fun st => .nx φ st else none
  | .faug C a f op e, φ, st => R.bf φ (evE S a φ st) fun x st => if isIns C S.nf x st then R.bf φ (getF x f st) fun v st => R.bf φ (evE S e φ st) fun w st =>
      R.bf φ (augOp op v w st) fun z st => if isIns C S.nf x st then (setFl x f z st).map fun st => .nx φ st else none
    else none
  | .raise C es, φ, st => Rs.bf φ (evEs S es φ st) fun vs st => match S.xin C, unpv vs with
    | some (n, fl), some ps => if ps.length = n then (extP ps [] fl).map fun fs => .ex ⟨C, fs⟩ φ st else none
    | _, _ => none
  | .tryE body C slot suite, φ, st => match exSs body φ st with
    | some (.ex e φ1 st1) => if (S.xin e.cls).isNone then none else if S.sub e.cls C then unslot slot (exSs suite (match slot with
        | some i => φ1.set i (some (.exn e))
        | none => φ1) st1) else some (.ex e φ1 st1)
    | r => r
  | .brk, φ, st => some (.bk φ st)
  | .cnt, φ, st => some (.ct φ st)
  | .pass, φ, st => some (.nx φ st)
def exSs : List MS → Slots → Store → Option FR
  | [], φ, st => some (.nx φ st)
  | s :: ss, φ, st => match exS s φ st with
    | some (.nx φ st) => exSs ss φ st
    | r => r
end
end
/-- a def: how many parameters, how many names, its body -/
structure MD where
  ar : Nat
  nn : Nat
  body : List MS
  deriving Inhabited
def endR : Option FR → Option ER
  | some (.nx _ st) => some (.ok (.pv .non) st)
  | some (.rt v st) => some (.ok v st)
  | some (.ex e _ st) => some (.ex e st)
  | _ => none
def MD.run (d : MD) (S : Sem) (vs : List LV) (st : Store) : Option ER :=
  if vs.length = d.ar then endR (exSs S d.body (vs.map some ++ List.replicate (d.nn - d.ar) none) st) else none
structure Prog where
  defs : List MD
  glb : Nat → Option PV
  shr : Nat → Bool
  wf : Nat
  nf : Nat := 0
  xin : Nat → Option (Nat × List (Nat × Nat)) := fun _ => none
  sub : Nat → Nat → Bool := fun _ _ => false
  tab : Nat → Option (List Sg) := fun _ => none
  dtab : Nat → Option (List (Sg × PV)) := fun _ => none
abbrev Cal := Nat → List LV → Store → Option ER
def Prog.runBy (P : Prog) (c c1 : Cal) : Cal := fun f vs st => match P.defs[f]? with
  | some d => d.run ⟨c, P.glb, P.shr, P.wf, P.nf, c1, P.xin, P.sub, P.tab, P.dtab⟩ vs st
  | none => none
/-- n calls deep, n - 1 -/
def Prog.cal2 (P : Prog) : Nat → Cal × Cal
  | 0 => (fun _ _ _ => none, fun _ _ _ => none)
  | n + 1 => (P.runBy (P.cal2 n).1 (P.cal2 n).2, (P.cal2 n).1)
def Prog.cal (P : Prog) (n : Nat) : Cal := (P.cal2 n).1
def Prog.sem (P : Prog) (n : Nat) : Sem := ⟨(P.cal2 n).1, P.glb, P.shr, P.wf, P.nf, (P.cal2 n).2, P.xin, P.sub, P.tab, P.dtab⟩
end Z
end

section
/-! ZD: how trees and cells lie in the abstract heap of the layer. -/
namespace Z
open PySem L2
def kyS : Ky → Key
  | .inl i => .inl i
  | .inr s => .inr (mkS s)
def okK : Ky → Bool
  | .inl _ => true
  | .inr s => okS s
theorem mkS_inj {a b : Sg} (h : mkS a = mkS b) : a = b := by
  have h1 : a.toArray = b.toArray := by simpa [mkS] using h
  simpa using congrArg Array.toList h1
theorem mkS_len (a : Sg) : (mkS a).length = a.length := by simp [mkS, Str.length]
theorem mkS_cps (a : Sg) : (mkS a).cps.toList = a := by simp [mkS]
theorem kyS_inj {a b : Ky} (h : kyS a = kyS b) : a = b := by
  cases a <;> cases b <;> simp only [kyS, Sum.inl.injEq, Sum.inr.injEq, reduceCtorEq] at h
  · rw [h]
  · rw [mkS_inj h]
theorem kySs_inj : ∀ {a b : List Ky}, a.map kyS = b.map kyS → a = b
  | [], [], _ => rfl
  | [], _ :: _, h => by simp at h
  | _ :: _, [], h => by simp at h
  | x :: a, y :: b, h => by
    simp only [List.map_cons, List.cons.injEq] at h
    rw [kyS_inj h.1, kySs_inj h.2]

section
variable (K : PySem.W.Frag) (F : Hp)
mutual
/-- the tree p lies at v; all its objects stand in F -/
def RP : PV → V → Prop
  | .non, v => v = .non
  | .bl b, v => v = .bl b
  | .int i, v => v = .int i
  | .str s, v => v = .str (mkS s) ∧ okS s = true
  | .tup xs, v => ∃ a vs, v = .ref a ∧ F a = some (.tup vs) ∧ RPs xs vs
  | .lst xs, v => ∃ a vs, v = .ref a ∧ F a = some (.lst vs) ∧ RPs xs vs
  | .dk kvs, v => ∃ a ks, v = .ref a ∧ F a = some (.dK ks) ∧ RPk kvs ks
  | .dt kvs, v => ∃ a ks, v = .ref a ∧ F a = some (.dT ks) ∧ RPt kvs ks
  | .scr ns, v => ∃ a, v = .ref a ∧ SqL K F a (ns.map V.int)
def RPs : List PV → List V → Prop
  | [], vs => vs = []
  | x :: xs, vs => ∃ v r, vs = v :: r ∧ RP x v ∧ RPs xs r
def RPk : List (Ky × PV) → List (Key × V) → Prop
  | [], ks => ks = []
  | (k, p) :: xs, ks => ∃ v r, ks = (kyS k, v) :: r ∧ okK k = true ∧ RP p v ∧ RPk xs r
def RPt : List (List Ky × PV) → List (List Key × V) → Prop
  | [], ks => ks = []
  | (k, p) :: xs, ks => ∃ v r, ks = (k.map kyS, v) :: r ∧ k.all okK = true ∧ RP p v ∧ RPt xs r
end
variable (ρ : List Addr)
mutual
def RL : LV → V → Prop
  | .pv p, v => RP K F p v
  | .ref n, v => ∃ a, v = .ref a ∧ ρ[n]? = some a
  | .tup xs, v => ∃ a vs, v = .ref a ∧ F a = some (.tup vs) ∧ RLs xs vs
  | .exn _, _ => False
def RLs : List LV → List V → Prop
  | [], vs => vs = []
  | x :: xs, vs => ∃ v r, vs = v :: r ∧ RL x v ∧ RLs xs r
end
def RLk : List (Ky × LV) → List (Key × V) → Prop
  | [], ks => ks = []
  | (k, p) :: xs, ks => ∃ v r, ks = (kyS k, v) :: r ∧ okK k = true ∧ RL K F ρ p v ∧ RLk xs r
def RLt : List (List Ky × LV) → List (List Key × V) → Prop
  | [], ks => ks = []
  | (k, p) :: xs, ks => ∃ v r, ks = (k.map kyS, v) :: r ∧ k.all okK = true ∧ RL K F ρ p v ∧ RLt xs r
end

/-- F stands in F' -/
abbrev Sub (F F' : Hp) : Prop := ∀ b o, F b = some o → F' b = some o
theorem Sub.refl (F : Hp) : Sub F F := fun _ _ h => h
theorem Sub.trans {F F' F'' : Hp} (a : Sub F F') (b : Sub F' F'') : Sub F F'' := fun c o h => b c o (a c o h)
theorem Sub.sqT {K : PySem.W.Frag} {F F' : Hp} {a : Addr} {xs : List V} (e : Sub F F') (h : SqT K F a xs) : SqT K F' a xs := by
  rcases h with (h | ⟨o, h⟩) | h
  · exact .inl (.inl (e _ _ h))
  · exact .inl (.inr ⟨o, e _ _ h⟩)
  · exact .inr h
theorem Sub.sqL {K : PySem.W.Frag} {F F' : Hp} {a : Addr} {xs : List V} (e : Sub F F') (h : SqL K F a xs) : SqL K F' a xs := by
  rcases h with (h | ⟨o, h⟩) | h
  · exact .inl (.inl (e _ _ h))
  · exact .inl (.inr ⟨o, e _ _ h⟩)
  · exact .inr h
section
variable {K : PySem.W.Frag} {F F' : Hp}
mutual
theorem RP.mono (e : Sub F F') : ∀ (p : PV) (v : V), RP K F p v → RP K F' p v
  | .non, v, h => by simpa only [RP] using h
  | .bl b, v, h => by simpa only [RP] using h
  | .int i, v, h => by simpa only [RP] using h
  | .str s, v, h => by simpa only [RP] using h
  | .tup xs, v, h => by
    simp only [RP] at h ⊢
    obtain ⟨a, vs, e1, e2, e3⟩ := h
    exact ⟨a, vs, e1, e _ _ e2, RPs.mono e xs vs e3⟩
  | .lst xs, v, h => by
    simp only [RP] at h ⊢
    obtain ⟨a, vs, e1, e2, e3⟩ := h
    exact ⟨a, vs, e1, e _ _ e2, RPs.mono e xs vs e3⟩
  | .dk kvs, v, h => by
    simp only [RP] at h ⊢
    obtain ⟨a, vs, e1, e2, e3⟩ := h
    exact ⟨a, vs, e1, e _ _ e2, RPk.mono e kvs vs e3⟩
  | .dt kvs, v, h => by
    simp only [RP] at h ⊢
    obtain ⟨a, vs, e1, e2, e3⟩ := h
    exact ⟨a, vs, e1, e _ _ e2, RPt.mono e kvs vs e3⟩
  | .scr ns, v, h => by
    simp only [RP] at h ⊢
    obtain ⟨a, e1, e2⟩ := h
    exact ⟨a, e1, e.sqL e2⟩
theorem RPs.mono (e : Sub F F') : ∀ (ps : List PV) (vs : List V), RPs K F ps vs → RPs K F' ps vs
  | [], vs, h => by simpa only [RPs] using h
  | x :: xs, vs, h => by
    simp only [RPs] at h ⊢
    obtain ⟨v, r, e1, e2, e3⟩ := h
    exact ⟨v, r, e1, RP.mono e x v e2, RPs.mono e xs r e3⟩
theorem RPk.mono (e : Sub F F') : ∀ (ps : List (Ky × PV)) (vs : List (Key × V)), RPk K F ps vs → RPk K F' ps vs
  | [], vs, h => by simpa only [RPk] using h
  | (k, x) :: xs, vs, h => by
    simp only [RPk] at h ⊢
    obtain ⟨v, r, e1, e2, e3, e4⟩ := h
    exact ⟨v, r, e1, e2, RP.mono e x v e3, RPk.mono e xs r e4⟩
theorem RPt.mono (e : Sub F F') : ∀ (ps : List (List Ky × PV)) (vs : List (List Key × V)), RPt K F ps vs → RPt K F' ps vs
  | [], vs, h => by simpa only [RPt] using h
  | (k, x) :: xs, vs, h => by
    simp only [RPt] at h ⊢
    obtain ⟨v, r, e1, e2, e3, e4⟩ := h
    exact ⟨v, r, e1, e2, RP.mono e x v e3, RPt.mono e xs r e4⟩
end
/-- cells keep their numbers -/
abbrev Pre (ρ ρ' : List Addr) : Prop := ∀ (n : Nat) (a : Addr), ρ[n]? = some a → ρ'[n]? = some a
theorem Pre.refl (ρ : List Addr) : Pre ρ ρ := fun _ _ h => h
theorem Pre.trans {a b c : List Addr} (x : Pre a b) (y : Pre b c) : Pre a c := fun n k h => y n k (x n k h)
theorem Pre.snoc (ρ : List Addr) (a : Addr) : Pre ρ (ρ ++ [a]) := fun n b h => by
  rw [List.getElem?_append_left (List.getElem?_eq_some_iff.mp h).1]
  exact h
variable {ρ ρ' : List Addr}
mutual
theorem RL.mono (e : Sub F F') (q : Pre ρ ρ') : ∀ (p : LV) (v : V), RL K F ρ p v → RL K F' ρ' p v
  | .pv p, v, h => by
    simp only [RL] at h ⊢
    exact RP.mono e p v h
  | .ref n, v, h => by
    simp only [RL] at h ⊢
    obtain ⟨a, e1, e2⟩ := h
    exact ⟨a, e1, q _ _ e2⟩
  | .tup xs, v, h => by
    simp only [RL] at h ⊢
    obtain ⟨a, vs, e1, e2, e3⟩ := h
    exact ⟨a, vs, e1, e _ _ e2, RLs.mono e q xs vs e3⟩
  | .exn _, _, h => by simp only [RL] at h
theorem RLs.mono (e : Sub F F') (q : Pre ρ ρ') : ∀ (ps : List LV) (vs : List V), RLs K F ρ ps vs → RLs K F' ρ' ps vs
  | [], vs, h => by simpa only [RLs] using h
  | x :: xs, vs, h => by
    simp only [RLs] at h ⊢
    obtain ⟨v, r, e1, e2, e3⟩ := h
    exact ⟨v, r, e1, RL.mono e q x v e2, RLs.mono e q xs r e3⟩
end
theorem RLk.mono (e : Sub F F') (q : Pre ρ ρ') : ∀ {ps : List (Ky × LV)} {vs : List (Key × V)}, RLk K F ρ ps vs → RLk K F' ρ' ps vs
  | [], vs, h => by simpa only [RLk] using h
  | (k, x) :: xs, vs, h => by
    simp only [RLk] at h ⊢
    obtain ⟨v, r, e1, e2, e3, e4⟩ := h
    exact ⟨v, r, e1, e2, RL.mono e q x v e3, RLk.mono e q e4⟩
theorem RLt.mono (e : Sub F F') (q : Pre ρ ρ') : ∀ {ps : List (List Ky × LV)} {vs : List (List Key × V)}, RLt K F ρ ps vs → RLt K F' ρ' ps vs
  | [], vs, h => by simpa only [RLt] using h
  | (k, x) :: xs, vs, h => by
    simp only [RLt] at h ⊢
    obtain ⟨v, r, e1, e2, e3, e4⟩ := h
    exact ⟨v, r, e1, e2, RL.mono e q x v e3, RLt.mono e q e4⟩

/-! ### lists of trees -/
theorem RPs.length : ∀ {xs : List PV} {vs : List V}, RPs K F xs vs → xs.length = vs.length
  | [], vs, h => by simp only [RPs] at h; subst h; rfl
  | x :: xs, vs, h => by
    simp only [RPs] at h
    obtain ⟨v, r, e1, _, e3⟩ := h
    subst e1
    rw [List.length_cons, List.length_cons, RPs.length e3]
theorem RPs.get : ∀ {xs : List PV} {vs : List V} {i : Nat} {x : PV}, RPs K F xs vs → xs[i]? = some x → ∃ v, vs[i]? = some v ∧ RP K F x v
  | [], _, _, _, _, e => by simp at e
  | x :: xs, vs, 0, y, h, e => by
    simp only [RPs] at h
    obtain ⟨v, r, e1, e2, e3⟩ := h
    subst e1
    simp only [List.getElem?_cons_zero, Option.some.injEq] at e
    subst e
    exact ⟨v, rfl, e2⟩
  | x :: xs, vs, i + 1, y, h, e => by
    simp only [RPs] at h
    obtain ⟨v, r, e1, e2, e3⟩ := h
    subst e1
    rw [List.getElem?_cons_succ] at e
    obtain ⟨w, h1, h2⟩ := RPs.get e3 e
    exact ⟨w, by simpa using h1, h2⟩
theorem RPs.append : ∀ {xs ys : List PV} {vs ws : List V}, RPs K F xs vs → RPs K F ys ws → RPs K F (xs ++ ys) (vs ++ ws)
  | [], _, vs, _, h, h' => by simp only [RPs] at h; subst h; exact h'
  | x :: xs, ys, vs, ws, h, h' => by
    simp only [RPs] at h
    obtain ⟨v, r, e1, e2, e3⟩ := h
    subst e1
    show RPs K F (x :: (xs ++ ys)) (v :: (r ++ ws))
    simp only [RPs]
    exact ⟨v, r ++ ws, rfl, e2, RPs.append e3 h'⟩
theorem RPs.drop : ∀ {xs : List PV} {vs : List V} (n : Nat), RPs K F xs vs → RPs K F (xs.drop n) (vs.drop n)
  | _, _, 0, h => h
  | [], vs, n + 1, h => by simp only [RPs] at h; subst h; simp [RPs]
  | x :: xs, vs, n + 1, h => by
    simp only [RPs] at h
    obtain ⟨v, r, e1, e2, e3⟩ := h
    subst e1
    simpa using RPs.drop n e3
theorem RPs.take : ∀ {xs : List PV} {vs : List V} (n : Nat), RPs K F xs vs → RPs K F (xs.take n) (vs.take n)
  | xs, _, 0, h => by simp [RPs]
  | [], vs, n + 1, h => by simp only [RPs] at h; subst h; simp [RPs]
  | x :: xs, vs, n + 1, h => by
    simp only [RPs] at h
    obtain ⟨v, r, e1, e2, e3⟩ := h
    subst e1
    simp only [List.take_succ_cons, RPs]
    exact ⟨v, _, rfl, e2, RPs.take n e3⟩
theorem RLs.length : ∀ {xs : List LV} {vs : List V}, RLs K F ρ xs vs → xs.length = vs.length
  | [], vs, h => by simp only [RLs] at h; subst h; rfl
  | x :: xs, vs, h => by
    simp only [RLs] at h
    obtain ⟨v, r, e1, _, e3⟩ := h
    subst e1
    rw [List.length_cons, List.length_cons, RLs.length e3]
theorem RLs.get : ∀ {xs : List LV} {vs : List V} {i : Nat} {x : LV}, RLs K F ρ xs vs → xs[i]? = some x → ∃ v, vs[i]? = some v ∧ RL K F ρ x v
  | [], _, _, _, _, e => by simp at e
  | x :: xs, vs, 0, y, h, e => by
    simp only [RLs] at h
    obtain ⟨v, r, e1, e2, e3⟩ := h
    subst e1
    simp only [List.getElem?_cons_zero, Option.some.injEq] at e
    subst e
    exact ⟨v, rfl, e2⟩
  | x :: xs, vs, i + 1, y, h, e => by
    simp only [RLs] at h
    obtain ⟨v, r, e1, e2, e3⟩ := h
    subst e1
    rw [List.getElem?_cons_succ] at e
    obtain ⟨w, h1, h2⟩ := RLs.get e3 e
    exact ⟨w, by simpa using h1, h2⟩
theorem RLs.append : ∀ {xs ys : List LV} {vs ws : List V}, RLs K F ρ xs vs → RLs K F ρ ys ws → RLs K F ρ (xs ++ ys) (vs ++ ws)
  | [], _, vs, _, h, h' => by simp only [RLs] at h; subst h; exact h'
  | x :: xs, ys, vs, ws, h, h' => by
    simp only [RLs] at h
    obtain ⟨v, r, e1, e2, e3⟩ := h
    subst e1
    show RLs K F ρ (x :: (xs ++ ys)) (v :: (r ++ ws))
    simp only [RLs]
    exact ⟨v, r ++ ws, rfl, e2, RLs.append e3 h'⟩
theorem RLs.set {x : LV} {v : V} (h : RL K F ρ x v) : ∀ {xs : List LV} {vs : List V} (i : Nat), RLs K F ρ xs vs → RLs K F ρ (xs.set i x) (vs.set i v)
  | [], vs, i, q => by simp only [RLs] at q; subst q; simp [RLs]
  | y :: ys, vs, 0, q => by
    simp only [RLs] at q
    obtain ⟨w, r, e1, e2, e3⟩ := q
    subst e1
    simp only [List.set_cons_zero, RLs]
    exact ⟨v, r, rfl, h, e3⟩
  | y :: ys, vs, i + 1, q => by
    simp only [RLs] at q
    obtain ⟨w, r, e1, e2, e3⟩ := q
    subst e1
    simp only [List.set_cons_succ, RLs]
    exact ⟨w, _, rfl, e2, RLs.set h i e3⟩
theorem RLs_pv : ∀ {xs : List PV} {vs : List V}, RLs K F ρ (xs.map .pv) vs ↔ RPs K F xs vs
  | [], vs => by simp [RLs, RPs]
  | x :: xs, vs => by
    simp only [List.map_cons, RLs, RPs, RL]
    constructor
    · rintro ⟨v, r, e1, e2, e3⟩
      exact ⟨v, r, e1, e2, RLs_pv.mp e3⟩
    · rintro ⟨v, r, e1, e2, e3⟩
      exact ⟨v, r, e1, e2, RLs_pv.mpr e3⟩
theorem RLk_pv : ∀ {xs : List (Ky × PV)} {vs : List (Key × V)}, RLk K F ρ (xs.map fun kv => (kv.1, LV.pv kv.2)) vs ↔ RPk K F xs vs
  | [], vs => by simp [RLk, RPk]
  | (k, x) :: xs, vs => by
    simp only [List.map_cons, RLk, RPk, RL]
    constructor
    · rintro ⟨v, r, e1, e2, e3, e4⟩
      exact ⟨v, r, e1, e2, e3, RLk_pv.mp e4⟩
    · rintro ⟨v, r, e1, e2, e3, e4⟩
      exact ⟨v, r, e1, e2, e3, RLk_pv.mpr e4⟩
theorem RLt_pv : ∀ {xs : List (List Ky × PV)} {vs : List (List Key × V)}, RLt K F ρ (xs.map fun kv => (kv.1, LV.pv kv.2)) vs ↔ RPt K F xs vs
  | [], vs => by simp [RLt, RPt]
  | (k, x) :: xs, vs => by
    simp only [List.map_cons, RLt, RPt, RL]
    constructor
    · rintro ⟨v, r, e1, e2, e3, e4⟩
      exact ⟨v, r, e1, e2, e3, RLt_pv.mp e4⟩
    · rintro ⟨v, r, e1, e2, e3, e4⟩
      exact ⟨v, r, e1, e2, e3, RLt_pv.mpr e4⟩
theorem RL_mkTup {vs : List LV} {ws : List V} {a : Addr} (h : RLs K F ρ vs ws) (ha : F a = some (.tup ws)) : RL K F ρ (mkTup vs) (.ref a) := by
  unfold mkTup
  cases e : unpv vs with
  | none =>
    simp only [RL]
    exact ⟨a, ws, rfl, ha, h⟩
  | some ps =>
    simp only [RL, RP]
    rw [unpv_eq e] at h
    exact ⟨a, ws, rfl, ha, RLs_pv.mp h⟩
end

/-! ### the heap -/
section
variable (K : PySem.W.Frag) (F : Hp) (ρ : List Addr) (cad : Nat → Addr) (fnm : Nat → Str) (H : Hp)
def CR (a : Addr) : Cell → Prop
  | .lst live xs => ∃ vs, H a = some (.lst vs) ∧ RLs K F ρ xs vs ∧ (live = true → F a = none) ∧ (live = false → F a = some (.lst vs))
  | .dk live kvs => ∃ ks, H a = some (.dK ks) ∧ RLk K F ρ kvs ks ∧ (live = true → F a = none) ∧ (live = false → F a = some (.dK ks))
  | .dt live kvs => ∃ ks, H a = some (.dT ks) ∧ RLt K F ρ kvs ks ∧ (live = true → F a = none) ∧ (live = false → F a = some (.dT ks))
  | .ins C fs => ∃ dx vs, H a = some (.ins (cad C) dx ((fs.map fun f => fnm f.1).zip vs)) ∧ RLs K F ρ (fs.map (·.2)) vs ∧ F a = none
structure HR (st : Store) : Prop where
  sub : Sub F H
  len : ρ.length = st.length
  nd : ρ.Nodup
  cell : ∀ (n : Nat) (a : Addr) (c : Cell), ρ[n]? = some a → st[n]? = some c → CR K F ρ cad fnm H a c
end
/-- what may have come to pass -/
structure G (F : Hp) (ρ : List Addr) (H : Hp) (F' : Hp) (ρ' : List Addr) (H' : Hp) : Prop where
  sub : Sub F F'
  pre : Pre ρ ρ'
  keep : ∀ b o, H b = some o → b ∉ ρ → H' b = some o
  new : ∀ b o, F' b = some o → F b = some o ∨ H b = none ∨ b ∈ ρ
  newρ : ∀ b, b ∈ ρ' → b ∈ ρ ∨ H b = none
  hold : ∀ b, H b ≠ none → H' b ≠ none
theorem G.refl (F : Hp) (ρ : List Addr) (H : Hp) : G F ρ H F ρ H := ⟨Sub.refl F, Pre.refl ρ, fun _ _ h _ => h, fun _ _ h => .inl h, fun _ h => .inl h, fun _ h => h⟩
theorem G.trans {F F' F'' H H' H'' : Hp} {ρ ρ' ρ'' : List Addr} (a : G F ρ H F' ρ' H') (b : G F' ρ' H' F'' ρ'' H'') : G F ρ H F'' ρ'' H'' where
  sub := a.sub.trans b.sub
  pre := a.pre.trans b.pre
  keep := fun c o h n => b.keep c o (a.keep c o h n) fun m => by
    rcases a.newρ c m with z | z
    · exact n z
    · rw [h] at z; cases z
  new := fun c o h => by
    rcases b.new c o h with z | z | z
    · exact a.new c o z
    · cases q : H c with
      | none => exact .inr (.inl rfl)
      | some u => exact absurd z (a.hold c (by simp [q]))
    · rcases a.newρ c z with y | y
      · exact .inr (.inr y)
      · exact .inr (.inl y)
  newρ := fun c h => by
    rcases b.newρ c h with z | z
    · exact a.newρ c z
    · cases q : H c with
      | none => exact .inr rfl
      | some u => exact absurd z (a.hold c (by simp [q]))
  hold := fun c h => b.hold c (a.hold c h)
end Z
end

section
/-! ZE: readings, the heap's steps, operators on trees. -/
namespace Z
open PySem L2
/-- where classes stand, what fields are called -/
structure Nm where
  cad : Nat → Addr
  ead : Nat → Addr
  fnm : Nat → Str
  /-- the error that the except clause around names: its slot, its object, its class, its dict -/
  cur : Option (Nat × Addr × Value × Option Addr) := none
/-- an error's class and fields, its dict in F -/
def RF (M : Nm) (K : PySem.W.Frag) (F : Hp) (e : Ex) (cls : Value) (d : Option Addr) : Prop :=
  cls = .ref (M.ead e.cls) ∧ ((e.fs = [] ∧ d = none) ∨ ∃ dd vs, d = some dd ∧ F dd = some (.xd ((e.fs.map fun f => M.fnm f.1).zip vs)) ∧ RPs K F (e.fs.map (·.2)) vs)
/-- what a slot holds -/
def RS (M : Nm) (K : PySem.W.Frag) (F : Hp) (ρ : List Addr) (i : Nat) : LV → V → Prop
  | .exn e, v => ∃ a cls d, M.cur = some (i, a, cls, d) ∧ v = .ref a ∧ RF M K F e cls d
  | x, v => RL K F ρ x v
def SL (M : Nm) (K : PySem.W.Frag) (F : Hp) (ρ : List Addr) (σ : St) (φ : Slots) : Prop :=
  φ.length = σ.length ∧ ∀ (i : Nat) (x : LV), φ[i]? = some (some x) → ∃ v, σ[i]? = some (some v) ∧ RS M K F ρ i x v
/-- an error in the air; its dict will not change any more -/
def RX (M : Nm) (K : PySem.W.Frag) (F H : Hp) (e : Ex) (cls : Value) (d : Option Addr) : Prop := RF M K F e cls d
section
variable {K : PySem.W.Frag} {F F' H H' : Hp} {ρ ρ' : List Addr} {σ : St} {φ : Slots} {st : Store} {M : Nm}
abbrev HR' (M : Nm) (K : PySem.W.Frag) (F : Hp) (ρ : List Addr) (H : Hp) (st : Store) : Prop := HR K F ρ M.cad M.fnm H st
theorem RF.mono {e : Ex} {cls : Value} {d : Option Addr} (h : RF M K F e cls d) (s : Sub F F') : RF M K F' e cls d := by
  obtain ⟨h1, h2⟩ := h
  refine ⟨h1, h2.imp id fun ⟨dd, vs, e1, e2, e3⟩ => ⟨dd, vs, e1, s _ _ e2, RPs.mono s _ _ e3⟩⟩
theorem RS.of {i : Nat} {x : LV} {v : V} (h : RL K F ρ x v) : RS M K F ρ i x v := by
  cases x with
  | exn e => simp only [RL] at h
  | _ => exact h
theorem RS.rl {i : Nat} {x : LV} {v : V} (h : RS M K F ρ i x v) (hx : ∀ e, x ≠ .exn e) : RL K F ρ x v := by
  cases x with
  | exn e => exact absurd rfl (hx e)
  | _ => exact h
theorem RS.mono {i : Nat} {x : LV} {v : V} (h : RS M K F ρ i x v) (e : Sub F F') (q : Pre ρ ρ') : RS M K F' ρ' i x v := by
  cases x with
  | exn y =>
    obtain ⟨a, cls, d, h1, h2, h3⟩ := h
    exact ⟨a, cls, d, h1, h2, h3.mono e⟩
  | pv p => exact RL.mono (K := K) e q (.pv p) v h
  | ref n => exact RL.mono (K := K) e q (.ref n) v h
  | tup xs => exact RL.mono (K := K) e q (.tup xs) v h
theorem SL.mono (h : SL M K F ρ σ φ) (e : Sub F F') (q : Pre ρ ρ') : SL M K F' ρ' σ φ := ⟨h.1, fun i x hx => by
  obtain ⟨v, h1, h2⟩ := h.2 i x hx
  exact ⟨v, h1, h2.mono e q⟩⟩
theorem SL.g (h : SL M K F ρ σ φ) (g : G F ρ H F' ρ' H') : SL M K F' ρ' σ φ := h.mono g.sub g.pre
theorem SL.set {x : LV} {v : V} (h : SL M K F ρ σ φ) (i : Nat) (r : RL K F ρ x v) : SL M K F ρ (σ.set i (some v)) (φ.set i (some x)) := by
  refine ⟨by simp [h.1], fun j y hy => ?_⟩
  by_cases hj : i = j
  · subst hj
    by_cases hl : i < φ.length
    · rw [List.getElem?_set_self hl] at hy
      cases hy
      exact ⟨v, List.getElem?_set_self (by rw [← h.1]; exact hl), .of r⟩
    · rw [List.getElem?_eq_none (by simpa using Nat.le_of_not_lt hl)] at hy
      cases hy
  · rw [List.getElem?_set_ne hj] at hy ⊢
    exact h.2 j y hy
theorem CR.mono {a : Addr} {c : Cell} (h : CR K F ρ M.cad M.fnm H a c) (e : Sub F F') (q : Pre ρ ρ') (hH : ∀ o, H a = some o → H' a = some o) (hF : F a = none → F' a = none) : CR K F' ρ' M.cad M.fnm H' a c := by
  cases c with
  | lst live xs =>
    obtain ⟨vs, h1, h2, h3, h4⟩ := h
    exact ⟨vs, hH _ h1, RLs.mono e q _ _ h2, fun z => hF (h3 z), fun z => e _ _ (h4 z)⟩
  | dk live xs =>
    obtain ⟨vs, h1, h2, h3, h4⟩ := h
    exact ⟨vs, hH _ h1, RLk.mono e q h2, fun z => hF (h3 z), fun z => e _ _ (h4 z)⟩
  | dt live xs =>
    obtain ⟨vs, h1, h2, h3, h4⟩ := h
    exact ⟨vs, hH _ h1, RLt.mono e q h2, fun z => hF (h3 z), fun z => e _ _ (h4 z)⟩
  | ins C fs =>
    obtain ⟨dx, vs, h1, h2, h3⟩ := h
    exact ⟨dx, vs, hH _ h1, RLs.mono e q _ _ h2, hF h3⟩
theorem CR.there {a : Addr} {c : Cell} (h : CR K F ρ M.cad M.fnm H a c) : ∃ o, H a = some o := by
  cases c with
  | lst live xs => obtain ⟨vs, h1, _⟩ := h; exact ⟨_, h1⟩
  | dk live xs => obtain ⟨vs, h1, _⟩ := h; exact ⟨_, h1⟩
  | dt live xs => obtain ⟨vs, h1, _⟩ := h; exact ⟨_, h1⟩
  | ins C fs => obtain ⟨dx, vs, h1, _⟩ := h; exact ⟨_, h1⟩
theorem HR.at (h : HR' M K F ρ H st) {n : Nat} {a : Addr} (e : ρ[n]? = some a) : ∃ c, st[n]? = some c ∧ CR K F ρ M.cad M.fnm H a c := by
  have hn : n < st.length := by
    rw [← h.len]
    exact (List.getElem?_eq_some_iff.mp e).1
  exact ⟨st[n], List.getElem?_eq_getElem hn, h.cell n a _ e (List.getElem?_eq_getElem hn)⟩
theorem HR.in (h : HR' M K F ρ H st) {a : Addr} (e : a ∈ ρ) : ∃ o, H a = some o := by
  obtain ⟨n, hn, en⟩ := List.mem_iff_getElem.mp e
  obtain ⟨c, _, hc⟩ := h.at (n := n) (a := a) (by rw [List.getElem?_eq_getElem hn, en])
  exact hc.there
theorem HR.fresh (h : HR' M K F ρ H st) {p : Addr} (np : H p = none) : F p = none := by
  cases e : F p with
  | none => rfl
  | some o => rw [h.sub p o e] at np; cases np
theorem HR.notin (h : HR' M K F ρ H st) {p : Addr} (np : H p = none) : p ∉ ρ := fun e => by
  obtain ⟨o, ho⟩ := h.in e
  rw [ho] at np; cases np
theorem sub_upd {p : Addr} {o : HO} (np : F p = none) : Sub F (upd F p o) := fun b u e => by rw [upd_ne (ne_of_none e np)]; exact e
theorem sub_upd2 {p : Addr} {o : HO} (s : Sub F H) : Sub (upd F p o) (upd H p o) := fun b u e => by
  by_cases hb : b = p
  · subst hb; rw [upd_same] at e ⊢; exact e
  · rw [upd_ne hb] at e ⊢; exact s b u e
/-- a new object that nothing will change -/
theorem HR.new (h : HR' M K F ρ H st) {p : Addr} (np : H p = none) (o : HO) : G F ρ H (upd F p o) ρ (upd H p o) ∧ HR' M K (upd F p o) ρ (upd H p o) st := by
  have nF := h.fresh np
  refine ⟨⟨sub_upd nF, Pre.refl ρ, fun b u e _ => by rw [upd_ne (ne_of_none e np)]; exact e, fun b u e => ?_, fun b hb => .inl hb, fun b hb => ?_⟩,
    ⟨sub_upd2 h.sub, h.len, h.nd, fun n a c e1 e2 => ?_⟩⟩
  · by_cases hb : b = p
    · exact .inr (.inl (by rw [hb]; exact np))
    · rw [upd_ne hb] at e; exact .inl e
  · by_cases hp : b = p
    · rw [hp, upd_same]; simp
    · rw [upd_ne hp]; exact hb
  · have hc := h.cell n a c e1 e2
    obtain ⟨u, hu⟩ := hc.there
    have hne : a ≠ p := ne_of_none hu np
    exact hc.mono (sub_upd nF) (Pre.refl ρ) (fun u e => by rw [upd_ne hne]; exact e) fun e => by rw [upd_ne hne]; exact e
/-- a new object that only the heap knows of -/
theorem HR.laid (h : HR' M K F ρ H st) {p : Addr} (np : H p = none) (o : HO) : G F ρ H F ρ (upd H p o) ∧ HR' M K F ρ (upd H p o) st := by
  have nF := h.fresh np
  refine ⟨⟨Sub.refl F, Pre.refl ρ, fun b u e _ => by rw [upd_ne (ne_of_none e np)]; exact e, fun b u e => .inl e, fun b hb => .inl hb, fun b hb => ?_⟩,
    ⟨fun b u e => by rw [upd_ne (ne_of_none e nF)]; exact h.sub b u e, h.len, h.nd, fun n a c e1 e2 => ?_⟩⟩
  · by_cases hp : b = p
    · rw [hp, upd_same]; simp
    · rw [upd_ne hp]; exact hb
  · have hc := h.cell n a c e1 e2
    obtain ⟨u, hu⟩ := hc.there
    have hne : a ≠ p := ne_of_none hu np
    exact hc.mono (Sub.refl F) (Pre.refl ρ) (fun u e => by rw [upd_ne hne]; exact e) fun e => e
/-- a new cell -/
theorem HR.cellN (h : HR' M K F ρ H st) {p : Addr} (np : H p = none) {o : HO} {c : Cell} (hc : CR K F (ρ ++ [p]) M.cad M.fnm (upd H p o) p c) : G F ρ H F (ρ ++ [p]) (upd H p o) ∧ HR' M K F (ρ ++ [p]) (upd H p o) (st ++ [c]) := by
  have nF := h.fresh np
  have nρ := h.notin np
  refine ⟨⟨Sub.refl F, Pre.snoc ρ p, fun b u e _ => by rw [upd_ne (ne_of_none e np)]; exact e, fun b u e => .inl e, fun b hb => ?_, fun b hb => ?_⟩,
    ⟨fun b u e => by rw [upd_ne (ne_of_none e nF)]; exact h.sub b u e, by rw [List.length_append, List.length_append, h.len]; rfl, ?_, fun n a c' e1 e2 => ?_⟩⟩
  · rcases List.mem_append.mp hb with z | z
    · exact .inl z
    · have : b = p := by simpa using z
      subst this
      exact .inr np
  · by_cases hp : b = p
    · rw [hp, upd_same]; simp
    · rw [upd_ne hp]; exact hb
  · exact List.nodup_append.mpr ⟨h.nd, by simp, fun x hx y hy e => nρ (by
      have : y = p := by simpa using hy
      rw [← this, ← e]; exact hx)⟩
  · by_cases hn : n < ρ.length
    · rw [List.getElem?_append_left hn] at e1
      rw [List.getElem?_append_left (by rw [← h.len]; exact hn)] at e2
      have hc' := h.cell n a c' e1 e2
      obtain ⟨u, hu⟩ := hc'.there
      have hne : a ≠ p := ne_of_none hu np
      exact hc'.mono (Sub.refl F) (Pre.snoc ρ p) (fun u e => by rw [upd_ne hne]; exact e) fun e => e
    · have hn' : n = ρ.length := by
        have := (List.getElem?_eq_some_iff.mp e1).1
        rw [List.length_append] at this
        simp only [List.length_cons, List.length_nil] at this
        omega
      subst hn'
      rw [List.getElem?_append_right (Nat.le_refl _)] at e1
      rw [h.len, List.getElem?_append_right (Nat.le_refl _)] at e2
      simp only [Nat.sub_self, List.getElem?_cons_zero, Option.some.injEq] at e1 e2
      subst e1 e2
      exact hc
/-- a cell is written -/
theorem HR.write (h : HR' M K F ρ H st) {n : Nat} {a : Addr} (ea : ρ[n]? = some a) (hF : F a = none) {o : HO} {c : Cell} (hc : CR K F ρ M.cad M.fnm (upd H a o) a c) : G F ρ H F ρ (upd H a o) ∧ HR' M K F ρ (upd H a o) (st.set n c) := by
  have ha : a ∈ ρ := List.mem_of_getElem? ea
  refine ⟨⟨Sub.refl F, Pre.refl ρ, fun b u e hb => by rw [upd_ne (fun z => hb (by rw [z]; exact ha))]; exact e, fun b u e => .inl e, fun b hb => .inl hb, fun b hb => ?_⟩,
    ⟨fun b u e => by rw [upd_ne (ne_of_none e hF)]; exact h.sub b u e, by rw [List.length_set]; exact h.len, h.nd, fun m b c' e1 e2 => ?_⟩⟩
  · by_cases hp : b = a
    · rw [hp, upd_same]; simp
    · rw [upd_ne hp]; exact hb
  · by_cases hm : n = m
    · subst hm
      rw [ea] at e1
      cases e1
      rw [List.getElem?_set_self (by rw [← h.len]; exact (List.getElem?_eq_some_iff.mp ea).1)] at e2
      cases e2
      exact hc
    · rw [List.getElem?_set_ne hm] at e2
      have hc' := h.cell m b c' e1 e2
      have hne : b ≠ a := fun z => hm (by
        subst z
        obtain ⟨l1, x1⟩ := List.getElem?_eq_some_iff.mp ea
        obtain ⟨l2, x2⟩ := List.getElem?_eq_some_iff.mp e1
        exact (List.getElem_inj h.nd).mp (x1.trans x2.symm))
      exact hc'.mono (Sub.refl F) (Pre.refl ρ) (fun u e => by rw [upd_ne hne]; exact e) fun e => e
/-- a cell is frozen -/
theorem HR.froze (h : HR' M K F ρ H st) {n : Nat} {a : Addr} (ea : ρ[n]? = some a) {o : HO} (hH : H a = some o) {c : Cell} (hF : F a = none ∨ F a = some o) (hc : CR K (upd F a o) ρ M.cad M.fnm H a c) :
    G F ρ H (upd F a o) ρ H ∧ HR' M K (upd F a o) ρ H (st.set n c) := by
  have ha : a ∈ ρ := List.mem_of_getElem? ea
  have hs : Sub F (upd F a o) := fun b u e => by
    by_cases hb : b = a
    · subst hb
      rcases hF with z | z
      · rw [z] at e; cases e
      · rw [z] at e; rw [upd_same]; exact e
    · rw [upd_ne hb]; exact e
  refine ⟨⟨hs, Pre.refl ρ, fun b u e _ => e, fun b u e => ?_, fun b hb => .inl hb, fun b hb => hb⟩,
    ⟨fun b u e => ?_, by rw [List.length_set]; exact h.len, h.nd, fun m b c' e1 e2 => ?_⟩⟩
  · by_cases hb : b = a
    · exact .inr (.inr (by rw [hb]; exact ha))
    · rw [upd_ne hb] at e; exact .inl e
  · by_cases hb : b = a
    · subst hb
      rw [upd_same] at e
      rw [← e]; exact hH
    · rw [upd_ne hb] at e; exact h.sub b u e
  · by_cases hm : n = m
    · subst hm
      rw [ea] at e1
      cases e1
      rw [List.getElem?_set_self (by rw [← h.len]; exact (List.getElem?_eq_some_iff.mp ea).1)] at e2
      cases e2
      exact hc
    · rw [List.getElem?_set_ne hm] at e2
      have hc' := h.cell m b c' e1 e2
      have hne : b ≠ a := fun z => hm (by
        subst z
        obtain ⟨l1, x1⟩ := List.getElem?_eq_some_iff.mp ea
        obtain ⟨l2, x2⟩ := List.getElem?_eq_some_iff.mp e1
        exact (List.getElem_inj h.nd).mp (x1.trans x2.symm))
      exact hc'.mono hs (Pre.refl ρ) (fun u e => e) fun e => by rw [upd_ne hne]; exact e

/-! ### what is seen of a name now -/
def PK (K : PySem.W.Frag) (F H : Hp) : PV → V → Prop
  | .lst xs, v => ∃ a vs, v = .ref a ∧ H a = some (.lst vs) ∧ RPs K F xs vs
  | .dk kvs, v => ∃ a ks, v = .ref a ∧ H a = some (.dK ks) ∧ RPk K F kvs ks
  | .dt kvs, v => ∃ a ks, v = .ref a ∧ H a = some (.dT ks) ∧ RPt K F kvs ks
  | p, v => RP K F p v
theorem PK.of (s : Sub F H) : ∀ {p : PV} {v : V}, RP K F p v → PK K F H p v
  | .lst xs, v, h => by
    simp only [RP] at h
    obtain ⟨a, vs, e1, e2, e3⟩ := h
    exact ⟨a, vs, e1, s _ _ e2, e3⟩
  | .dk xs, v, h => by
    simp only [RP] at h
    obtain ⟨a, vs, e1, e2, e3⟩ := h
    exact ⟨a, vs, e1, s _ _ e2, e3⟩
  | .dt xs, v, h => by
    simp only [RP] at h
    obtain ⟨a, vs, e1, e2, e3⟩ := h
    exact ⟨a, vs, e1, s _ _ e2, e3⟩
  | .non, _, h => h
  | .bl _, _, h => h
  | .int _, _, h => h
  | .str _, _, h => h
  | .tup _, _, h => h
  | .scr _, _, h => h
theorem peek_ok (h : HR' M K F ρ H st) : ∀ {x : LV} {v : V} {p : PV}, RL K F ρ x v → peek st x = some p → PK K F H p v
  | .pv q, v, p, r, e => by
    simp only [peek, Option.some.injEq] at e
    subst e
    simp only [RL] at r
    exact PK.of h.sub r
  | .ref n, v, p, r, e => by
    simp only [RL] at r
    obtain ⟨a, ev, ea⟩ := r
    obtain ⟨c, ec, hc⟩ := h.at ea
    unfold peek at e
    simp only [ec] at e
    cases c with
    | lst live xs =>
      obtain ⟨vs, h1, h2, _⟩ := hc
      simp only [Option.map_eq_some_iff] at e
      obtain ⟨ps, e1, e2⟩ := e
      subst e2
      rw [unpv_eq e1] at h2
      exact ⟨a, vs, ev, h1, RLs_pv.mp h2⟩
    | dk live xs =>
      obtain ⟨vs, h1, h2, _⟩ := hc
      simp only [Option.map_eq_some_iff] at e
      obtain ⟨ps, e1, e2⟩ := e
      subst e2
      rw [unpvK_eq e1] at h2
      exact ⟨a, vs, ev, h1, RLk_pv.mp h2⟩
    | dt live xs =>
      obtain ⟨vs, h1, h2, _⟩ := hc
      simp only [Option.map_eq_some_iff] at e
      obtain ⟨ps, e1, e2⟩ := e
      subst e2
      rw [unpvK_eq e1] at h2
      exact ⟨a, vs, ev, h1, RLt_pv.mp h2⟩
    | ins C fs => cases e
  | .tup xs, _, _, _, e => by simp [peek] at e
  | .exn _, _, _, _, e => by simp [peek] at e
end
end Z
end

section
/-! ZF: readings. -/
namespace Z
open PySem L2
section
variable (M : Nm) (K : PySem.W.Frag) (W : WX)
def PostE (σ : St) (F : Hp) (ρ : List Addr) (H : Hp) (Q : VK) : ER → Prop
  | .ok x st => ∀ F' ρ' H' v, G F ρ H F' ρ' H' → HR' M K F' ρ' H' st → RL K F' ρ' x v → Q v H'
  | .ex e st => ∀ F' ρ' H' cls d, G F ρ H F' ρ' H' → HR' M K F' ρ' H' st → RX M K F' H' e cls d → W cls d σ H'
def PostA (σ : St) (F : Hp) (ρ : List Addr) (H : Hp) (Q : List V → Hp → Prop) : ERs → Prop
  | .ok xs st => ∀ F' ρ' H' vs, G F ρ H F' ρ' H' → HR' M K F' ρ' H' st → RLs K F' ρ' xs vs → Q vs H'
  | .ex e st => ∀ F' ρ' H' cls d, G F ρ H F' ρ' H' → HR' M K F' ρ' H' st → RX M K F' H' e cls d → W cls d σ H'
def PostT (σ : St) (F : Hp) (ρ : List Addr) (H : Hp) (Q : Bool → Hp → Prop) : ET → Prop
  | .ok b st => ∀ F' ρ' H', G F ρ H F' ρ' H' → HR' M K F' ρ' H' st → Q b H'
  | .ex e st => ∀ F' ρ' H' cls d, G F ρ H F' ρ' H' → HR' M K F' ρ' H' st → RX M K F' H' e cls d → W cls d σ H'
def PostS (F : Hp) (ρ : List Addr) (H : Hp) (D : Ends) : FR → Prop
  | .nx φ st => ∀ F' ρ' H' σ', G F ρ H F' ρ' H' → HR' M K F' ρ' H' st → SL M K F' ρ' σ' φ → D.nx σ' H'
  | .bk φ st => ∀ F' ρ' H' σ', G F ρ H F' ρ' H' → HR' M K F' ρ' H' st → SL M K F' ρ' σ' φ → D.bk σ' H'
  | .ct φ st => ∀ F' ρ' H' σ', G F ρ H F' ρ' H' → HR' M K F' ρ' H' st → SL M K F' ρ' σ' φ → D.ct σ' H'
  | .rt x st => ∀ F' ρ' H' v, G F ρ H F' ρ' H' → HR' M K F' ρ' H' st → RL K F' ρ' x v → D.rt v H'
  | .ex e φ st => ∀ F' ρ' H' σ' cls d, G F ρ H F' ρ' H' → HR' M K F' ρ' H' st → SL M K F' ρ' σ' φ → RX M K F' H' e cls d → W cls d σ' H'
def RdE (t : TE) (f : Slots → Store → Option ER) : Prop := ∀ σ H Q φ F ρ st r, HR' M K F ρ H st → SL M K F ρ σ φ → f φ st = some r → PostE M K W σ F ρ H Q r → t σ H Q
def RdA (t : TA) (f : Slots → Store → Option ERs) : Prop := ∀ σ H Q φ F ρ st r, HR' M K F ρ H st → SL M K F ρ σ φ → f φ st = some r → PostA M K W σ F ρ H Q r → t σ H Q
def RdT (t : TT) (f : Slots → Store → Option ET) : Prop := ∀ σ H Q φ F ρ st r, HR' M K F ρ H st → SL M K F ρ σ φ → f φ st = some r → PostT M K W σ F ρ H Q r → t σ H Q
def RdS (t : TS) (f : Slots → Store → Option FR) : Prop := ∀ D σ H φ F ρ st r, HR' M K F ρ H st → SL M K F ρ σ φ → f φ st = some r → PostS M K W F ρ H D r → t D σ H
/-- an operation on values -/
def RdV2 (r : R2) (g : LV → LV → Store → Option ER) : Prop := ∀ σ H Q F ρ st x y v w res, HR' M K F ρ H st → RL K F ρ x v → RL K F ρ y w → g x y st = some res → PostE M K W σ F ρ H Q res → r v w H Q
def RdV1 (r : V → Hp → VK → Prop) (g : LV → Store → Option ER) : Prop := ∀ σ H Q F ρ st x v res, HR' M K F ρ H st → RL K F ρ x v → g x st = some res → PostE M K W σ F ρ H Q res → r v H Q
def RdVs (r : List V → Hp → VK → Prop) (g : List LV → Store → Option ER) : Prop := ∀ σ H Q F ρ st xs vs res, HR' M K F ρ H st → RLs K F ρ xs vs → g xs st = some res → PostE M K W σ F ρ H Q res → r vs H Q
end
section
variable {M : Nm} {K : PySem.W.Frag} {W : WX} {σ : St} {F F' H H' : Hp} {ρ ρ' : List Addr} {st : Store}
theorem PostE.g {Q : VK} {r : ER} (p : PostE M K W σ F ρ H Q r) (g : G F ρ H F' ρ' H') : PostE M K W σ F' ρ' H' Q r := by
  cases r with
  | ok x st => exact fun F2 ρ2 H2 v g2 h2 r2 => p F2 ρ2 H2 v (g.trans g2) h2 r2
  | ex e st => exact fun F2 ρ2 H2 c d g2 h2 r2 => p F2 ρ2 H2 c d (g.trans g2) h2 r2
theorem PostA.g {Q : List V → Hp → Prop} {r : ERs} (p : PostA M K W σ F ρ H Q r) (g : G F ρ H F' ρ' H') : PostA M K W σ F' ρ' H' Q r := by
  cases r with
  | ok x st => exact fun F2 ρ2 H2 v g2 h2 r2 => p F2 ρ2 H2 v (g.trans g2) h2 r2
  | ex e st => exact fun F2 ρ2 H2 c d g2 h2 r2 => p F2 ρ2 H2 c d (g.trans g2) h2 r2
theorem PostT.g {Q : Bool → Hp → Prop} {r : ET} (p : PostT M K W σ F ρ H Q r) (g : G F ρ H F' ρ' H') : PostT M K W σ F' ρ' H' Q r := by
  cases r with
  | ok x st => exact fun F2 ρ2 H2 g2 h2 => p F2 ρ2 H2 (g.trans g2) h2
  | ex e st => exact fun F2 ρ2 H2 c d g2 h2 r2 => p F2 ρ2 H2 c d (g.trans g2) h2 r2
theorem PostS.g {D : Ends} {r : FR} (p : PostS M K W F ρ H D r) (g : G F ρ H F' ρ' H') : PostS M K W F' ρ' H' D r := by
  cases r with
  | nx φ st => exact fun F2 ρ2 H2 v g2 h2 r2 => p F2 ρ2 H2 v (g.trans g2) h2 r2
  | bk φ st => exact fun F2 ρ2 H2 v g2 h2 r2 => p F2 ρ2 H2 v (g.trans g2) h2 r2
  | ct φ st => exact fun F2 ρ2 H2 v g2 h2 r2 => p F2 ρ2 H2 v (g.trans g2) h2 r2
  | rt φ st => exact fun F2 ρ2 H2 v g2 h2 r2 => p F2 ρ2 H2 v (g.trans g2) h2 r2
  | ex e φ st => exact fun F2 ρ2 H2 v c d g2 h2 r2 x2 => p F2 ρ2 H2 v c d (g.trans g2) h2 r2 x2

/-! ### sequences -/
theorem RdE.bind {t : TE} {f : Slots → Store → Option ER} (h : RdE M K W t f) {φ : Slots} {g : LV → Store → Option ER} {r : ER} {Q U : VK} (hh : HR' M K F ρ H st) (hs : SL M K F ρ σ φ) (e : R.bind (f φ st) g = some r) (p : PostE M K W σ F ρ H Q r)
    (k : ∀ x st1 F1 ρ1 H1 v, g x st1 = some r → G F ρ H F1 ρ1 H1 → HR' M K F1 ρ1 H1 st1 → RL K F1 ρ1 x v → PostE M K W σ F1 ρ1 H1 Q r → U v H1) : t σ H U := by
  cases q : f φ st with
  | none => rw [q] at e; cases e
  | some a =>
    rw [q] at e
    cases a with
    | ok x st1 => exact h σ H U φ F ρ st _ hh hs q fun F1 ρ1 H1 v g1 h1 r1 => k x st1 F1 ρ1 H1 v e g1 h1 r1 (p.g g1)
    | ex x st1 =>
      have e' : r = .ex x st1 := (Option.some.inj e).symm
      subst e'
      exact h σ H U φ F ρ st _ hh hs q p
theorem RdE.bindT {t : TE} {f : Slots → Store → Option ER} (h : RdE M K W t f) {φ : Slots} {g : LV → Store → Option ET} {r : ET} {Q : Bool → Hp → Prop} {U : VK} (hh : HR' M K F ρ H st) (hs : SL M K F ρ σ φ) (e : R.bt (f φ st) g = some r) (p : PostT M K W σ F ρ H Q r)
    (k : ∀ x st1 F1 ρ1 H1 v, g x st1 = some r → G F ρ H F1 ρ1 H1 → HR' M K F1 ρ1 H1 st1 → RL K F1 ρ1 x v → PostT M K W σ F1 ρ1 H1 Q r → U v H1) : t σ H U := by
  cases q : f φ st with
  | none => rw [q] at e; cases e
  | some a =>
    rw [q] at e
    cases a with
    | ok x st1 => exact h σ H U φ F ρ st _ hh hs q fun F1 ρ1 H1 v g1 h1 r1 => k x st1 F1 ρ1 H1 v e g1 h1 r1 (p.g g1)
    | ex x st1 =>
      have e' : r = .ex x st1 := (Option.some.inj e).symm
      subst e'
      exact h σ H U φ F ρ st _ hh hs q p
theorem RdE.bindA {t : TE} {f : Slots → Store → Option ER} (h : RdE M K W t f) {φ : Slots} {g : LV → Store → Option ERs} {r : ERs} {Q : List V → Hp → Prop} {U : VK} (hh : HR' M K F ρ H st) (hs : SL M K F ρ σ φ) (e : R.bs (f φ st) g = some r) (p : PostA M K W σ F ρ H Q r)
    (k : ∀ x st1 F1 ρ1 H1 v, g x st1 = some r → G F ρ H F1 ρ1 H1 → HR' M K F1 ρ1 H1 st1 → RL K F1 ρ1 x v → PostA M K W σ F1 ρ1 H1 Q r → U v H1) : t σ H U := by
  cases q : f φ st with
  | none => rw [q] at e; cases e
  | some a =>
    rw [q] at e
    cases a with
    | ok x st1 => exact h σ H U φ F ρ st _ hh hs q fun F1 ρ1 H1 v g1 h1 r1 => k x st1 F1 ρ1 H1 v e g1 h1 r1 (p.g g1)
    | ex x st1 =>
      have e' : r = .ex x st1 := (Option.some.inj e).symm
      subst e'
      exact h σ H U φ F ρ st _ hh hs q p
theorem RdE.bindS {t : TE} {f : Slots → Store → Option ER} (h : RdE M K W t f) {φ : Slots} {g : LV → Store → Option FR} {r : FR} {D : Ends} {U : VK} (hh : HR' M K F ρ H st) (hs : SL M K F ρ σ φ) (e : R.bf φ (f φ st) g = some r) (p : PostS M K W F ρ H D r)
    (k : ∀ x st1 F1 ρ1 H1 v, g x st1 = some r → G F ρ H F1 ρ1 H1 → HR' M K F1 ρ1 H1 st1 → RL K F1 ρ1 x v → PostS M K W F1 ρ1 H1 D r → U v H1) : t σ H U := by
  cases q : f φ st with
  | none => rw [q] at e; cases e
  | some a =>
    rw [q] at e
    cases a with
    | ok x st1 => exact h σ H U φ F ρ st _ hh hs q fun F1 ρ1 H1 v g1 h1 r1 => k x st1 F1 ρ1 H1 v e g1 h1 r1 (p.g g1)
    | ex x st1 =>
      have e' : r = .ex x φ st1 := (Option.some.inj e).symm
      subst e'
      exact h σ H U φ F ρ st _ hh hs q fun F1 ρ1 H1 c d g1 h1 x1 => p F1 ρ1 H1 σ c d g1 h1 (hs.g g1) x1
theorem RdA.bind {t : TA} {f : Slots → Store → Option ERs} (h : RdA M K W t f) {φ : Slots} {g : List LV → Store → Option ER} {r : ER} {Q : VK} {U : List V → Hp → Prop} (hh : HR' M K F ρ H st) (hs : SL M K F ρ σ φ) (e : Rs.bind (f φ st) g = some r) (p : PostE M K W σ F ρ H Q r)
    (k : ∀ x st1 F1 ρ1 H1 v, g x st1 = some r → G F ρ H F1 ρ1 H1 → HR' M K F1 ρ1 H1 st1 → RLs K F1 ρ1 x v → PostE M K W σ F1 ρ1 H1 Q r → U v H1) : t σ H U := by
  cases q : f φ st with
  | none => rw [q] at e; cases e
  | some a =>
    rw [q] at e
    cases a with
    | ok x st1 => exact h σ H U φ F ρ st _ hh hs q fun F1 ρ1 H1 v g1 h1 r1 => k x st1 F1 ρ1 H1 v e g1 h1 r1 (p.g g1)
    | ex x st1 =>
      have e' : r = .ex x st1 := (Option.some.inj e).symm
      subst e'
      exact h σ H U φ F ρ st _ hh hs q p
theorem RdA.bindA {t : TA} {f : Slots → Store → Option ERs} (h : RdA M K W t f) {φ : Slots} {g : List LV → Store → Option ERs} {r : ERs} {Q U : List V → Hp → Prop} (hh : HR' M K F ρ H st) (hs : SL M K F ρ σ φ) (e : Rs.bs (f φ st) g = some r) (p : PostA M K W σ F ρ H Q r)
    (k : ∀ x st1 F1 ρ1 H1 v, g x st1 = some r → G F ρ H F1 ρ1 H1 → HR' M K F1 ρ1 H1 st1 → RLs K F1 ρ1 x v → PostA M K W σ F1 ρ1 H1 Q r → U v H1) : t σ H U := by
  cases q : f φ st with
  | none => rw [q] at e; cases e
  | some a =>
    rw [q] at e
    cases a with
    | ok x st1 => exact h σ H U φ F ρ st _ hh hs q fun F1 ρ1 H1 v g1 h1 r1 => k x st1 F1 ρ1 H1 v e g1 h1 r1 (p.g g1)
    | ex x st1 =>
      have e' : r = .ex x st1 := (Option.some.inj e).symm
      subst e'
      exact h σ H U φ F ρ st _ hh hs q p
theorem RdA.bindS {t : TA} {f : Slots → Store → Option ERs} (h : RdA M K W t f) {φ : Slots} {g : List LV → Store → Option FR} {r : FR} {D : Ends} {U : List V → Hp → Prop} (hh : HR' M K F ρ H st) (hs : SL M K F ρ σ φ) (e : Rs.bf φ (f φ st) g = some r) (p : PostS M K W F ρ H D r)
    (k : ∀ x st1 F1 ρ1 H1 v, g x st1 = some r → G F ρ H F1 ρ1 H1 → HR' M K F1 ρ1 H1 st1 → RLs K F1 ρ1 x v → PostS M K W F1 ρ1 H1 D r → U v H1) : t σ H U := by
  cases q : f φ st with
  | none => rw [q] at e; cases e
  | some a =>
    rw [q] at e
    cases a with
    | ok x st1 => exact h σ H U φ F ρ st _ hh hs q fun F1 ρ1 H1 v g1 h1 r1 => k x st1 F1 ρ1 H1 v e g1 h1 r1 (p.g g1)
    | ex x st1 =>
      have e' : r = .ex x φ st1 := (Option.some.inj e).symm
      subst e'
      exact h σ H U φ F ρ st _ hh hs q fun F1 ρ1 H1 c d g1 h1 x1 => p F1 ρ1 H1 σ c d g1 h1 (hs.g g1) x1
theorem RdT.bind {t : TT} {f : Slots → Store → Option ET} (h : RdT M K W t f) {φ : Slots} {g : Bool → Store → Option ER} {r : ER} {Q : VK} {U : Bool → Hp → Prop} (hh : HR' M K F ρ H st) (hs : SL M K F ρ σ φ) (e : T.bind (f φ st) g = some r) (p : PostE M K W σ F ρ H Q r)
    (k : ∀ x st1 F1 ρ1 H1, g x st1 = some r → G F ρ H F1 ρ1 H1 → HR' M K F1 ρ1 H1 st1 → PostE M K W σ F1 ρ1 H1 Q r → U x H1) : t σ H U := by
  cases q : f φ st with
  | none => rw [q] at e; cases e
  | some a =>
    rw [q] at e
    cases a with
    | ok x st1 => exact h σ H U φ F ρ st _ hh hs q fun F1 ρ1 H1 g1 h1 => k x st1 F1 ρ1 H1 e g1 h1 (p.g g1)
    | ex x st1 =>
      have e' : r = .ex x st1 := (Option.some.inj e).symm
      subst e'
      exact h σ H U φ F ρ st _ hh hs q p
theorem RdT.bindT {t : TT} {f : Slots → Store → Option ET} (h : RdT M K W t f) {φ : Slots} {g : Bool → Store → Option ET} {r : ET} {Q U : Bool → Hp → Prop} (hh : HR' M K F ρ H st) (hs : SL M K F ρ σ φ) (e : T.bt (f φ st) g = some r) (p : PostT M K W σ F ρ H Q r)
    (k : ∀ x st1 F1 ρ1 H1, g x st1 = some r → G F ρ H F1 ρ1 H1 → HR' M K F1 ρ1 H1 st1 → PostT M K W σ F1 ρ1 H1 Q r → U x H1) : t σ H U := by
  cases q : f φ st with
  | none => rw [q] at e; cases e
  | some a =>
    rw [q] at e
    cases a with
    | ok x st1 => exact h σ H U φ F ρ st _ hh hs q fun F1 ρ1 H1 g1 h1 => k x st1 F1 ρ1 H1 e g1 h1 (p.g g1)
    | ex x st1 =>
      have e' : r = .ex x st1 := (Option.some.inj e).symm
      subst e'
      exact h σ H U φ F ρ st _ hh hs q p
theorem RdT.bindS {t : TT} {f : Slots → Store → Option ET} (h : RdT M K W t f) {φ : Slots} {g : Bool → Store → Option FR} {r : FR} {D : Ends} {U : Bool → Hp → Prop} (hh : HR' M K F ρ H st) (hs : SL M K F ρ σ φ) (e : T.bf φ (f φ st) g = some r) (p : PostS M K W F ρ H D r)
    (k : ∀ x st1 F1 ρ1 H1, g x st1 = some r → G F ρ H F1 ρ1 H1 → HR' M K F1 ρ1 H1 st1 → PostS M K W F1 ρ1 H1 D r → U x H1) : t σ H U := by
  cases q : f φ st with
  | none => rw [q] at e; cases e
  | some a =>
    rw [q] at e
    cases a with
    | ok x st1 => exact h σ H U φ F ρ st _ hh hs q fun F1 ρ1 H1 g1 h1 => k x st1 F1 ρ1 H1 e g1 h1 (p.g g1)
    | ex x st1 =>
      have e' : r = .ex x φ st1 := (Option.some.inj e).symm
      subst e'
      exact h σ H U φ F ρ st _ hh hs q fun F1 ρ1 H1 c d g1 h1 x1 => p F1 ρ1 H1 σ c d g1 h1 (hs.g g1) x1
/-- a tree comes -/
theorem PostE.tree {Q : VK} {p : PV} {v : V} (q : PostE M K W σ F ρ H Q (.ok (.pv p) st)) (hh : HR' M K F ρ H st) (r : RP K F p v) : Q v H := q F ρ H v (G.refl F ρ H) hh (by simp only [RL]; exact r)
theorem PostE.here {Q : VK} {x : LV} {v : V} (q : PostE M K W σ F ρ H Q (.ok x st)) (hh : HR' M K F ρ H st) (r : RL K F ρ x v) : Q v H := q F ρ H v (G.refl F ρ H) hh r

theorem rd_op {ta tb : TE} {fa fb : Slots → Store → Option ER} {r : R2} {g : LV → LV → Store → Option ER} (ha : RdE M K W ta fa) (hb : RdE M K W tb fb) (hr : RdV2 M K W r g) :
    RdE M K W (tOp r ta tb) fun φ st => R.bind (fa φ st) fun x st => R.bind (fb φ st) fun y st => g x y st := by
  intro σ H Q φ F ρ st res hh hs e p
  refine ha.bind hh hs e p fun x st1 F1 ρ1 H1 v e1 g1 h1 r1 p1 => ?_
  refine hb.bind h1 (hs.g g1) e1 p1 fun y st2 F2 ρ2 H2 w e2 g2 h2 r2 p2 => ?_
  exact hr σ H2 Q F2 ρ2 st2 x y v w res h2 (RL.mono g2.sub g2.pre x v r1) r2 e2 p2
end
end Z
end

section
/-! ZG: the operators' rules of the layer, joined, and their readings. -/
namespace Z
open PySem PySem.Spec PyProof.Rows L2
theorem line_eq : sizeLine = line := by rw [sizeLine_eq]; rfl
section
variable {K : PySem.W.Frag} {F H : Hp}
mutual
theorem RP.dp (s : Sub F H) : ∀ (p : PV) (v : V), RP K F p v → eqOk p = true → Dp K H v (toD p) ∧ (toD p).canLay0 = true
  | .non, v, h, _ => by
    simp only [RP] at h; subst h
    exact ⟨by simp only [toD]; exact .non, by simp [toD, PyData.canLay0]⟩
  | .bl b, v, h, _ => by
    simp only [RP] at h; subst h
    exact ⟨by simp only [toD]; exact .bl b, by simp [toD, PyData.canLay0]⟩
  | .int i, v, h, _ => by
    simp only [RP] at h; subst h
    exact ⟨by simp only [toD]; exact .int i, by simp [toD, PyData.canLay0]⟩
  | .str x, v, h, _ => by
    simp only [RP] at h
    obtain ⟨h1, h2⟩ := h
    subst h1
    refine ⟨by simp only [toD]; exact .str _, ?_⟩
    simp only [toD, PyData.canLay0, PyData.strOk, mkS]
    simpa [okS] using h2
  | .tup xs, v, h, e => by
    simp only [RP] at h
    obtain ⟨a, vs, e1, e2, e3⟩ := h
    subst e1
    have q := RPs.dp s xs vs e3 (by simpa [eqOk] using e)
    exact ⟨by simp only [toD]; exact .tup (.inl (.inl (s _ _ e2))) q.1, by simp only [toD, PyData.canLay0]; exact q.2⟩
  | .lst xs, v, h, e => by
    simp only [RP] at h
    obtain ⟨a, vs, e1, e2, e3⟩ := h
    subst e1
    have q := RPs.dp s xs vs e3 (by simpa [eqOk] using e)
    exact ⟨by simp only [toD]; exact .lst (.inl (.inl (s _ _ e2))) q.1, by simp only [toD, PyData.canLay0]; exact q.2⟩
  | .dk _, _, _, e => by simp [eqOk] at e
  | .dt _, _, _, e => by simp [eqOk] at e
  | .scr _, _, _, e => by simp [eqOk] at e
theorem RPs.dp (s : Sub F H) : ∀ (ps : List PV) (vs : List V), RPs K F ps vs → eqOks ps = true → DpAll K H vs (toDs ps) ∧ PyData.canLayAll0 (toDs ps) = true
  | [], vs, h, _ => by
    simp only [RPs] at h; subst h
    exact ⟨by simp only [toDs]; exact .nil, by simp [toDs, PyData.canLayAll0]⟩
  | x :: xs, vs, h, e => by
    simp only [RPs] at h
    obtain ⟨v, r, e1, e2, e3⟩ := h
    subst e1
    simp only [eqOks, Bool.and_eq_true] at e
    have q1 := RP.dp s x v e2 e.1
    have q2 := RPs.dp s xs r e3 e.2
    exact ⟨by simp only [toDs]; exact .cons q1.1 q2.1, by simp only [toDs, PyData.canLayAll0, q1.2, q2.2, Bool.and_self]⟩
end
theorem PK.dp (s : Sub F H) {p : PV} {v : V} (h : PK K F H p v) (e : eqOk p = true) : Dp K H v (toD p) ∧ (toD p).canLay0 = true := by
  cases p with
  | lst xs =>
    obtain ⟨a, vs, e1, e2, e3⟩ := h
    subst e1
    have q := RPs.dp s xs vs e3 (by simpa [eqOk] using e)
    exact ⟨by simp only [toD]; exact .lst (.inl (.inl e2)) q.1, by simp only [toD, PyData.canLay0]; exact q.2⟩
  | dk _ => simp [eqOk] at e
  | dt _ => simp [eqOk] at e
  | scr _ => simp [eqOk] at e
  | non => exact RP.dp s _ _ h e
  | bl _ => exact RP.dp s _ _ h e
  | int _ => exact RP.dp s _ _ h e
  | str _ => exact RP.dp s _ _ h e
  | tup _ => exact RP.dp s _ _ h e
end
mutual
theorem depth_toD : ∀ p : PV, (toD p).depth = dep p
  | .non => by simp [toD, PyData.depth, dep]
  | .bl b => by simp [toD, PyData.depth, dep]
  | .int i => by simp [toD, PyData.depth, dep]
  | .str s => by simp [toD, PyData.depth, dep]
  | .tup xs => by simp only [toD, PyData.depth, dep, depth_toDs xs]; omega
  | .lst xs => by simp only [toD, PyData.depth, dep, depth_toDs xs]; omega
  | .dk _ => by simp [toD, PyData.depth, dep]
  | .dt _ => by simp [toD, PyData.depth, dep]
  | .scr _ => by simp [toD, PyData.depth, dep]
theorem depth_toDs : ∀ ps : List PV, PyData.depthAll (toDs ps) = deps ps
  | [] => by simp [toDs, PyData.depthAll, deps]
  | x :: xs => by simp only [toDs, PyData.depthAll, deps, depth_toD x, depth_toDs xs]
end
theorem mkS_beq (a b : Sg) : (mkS a == mkS b) = (a == b) := by
  by_cases h : a = b
  · subst h; simp
  · have : mkS a ≠ mkS b := fun e => h (mkS_inj e)
    rw [beq_eq_false_iff_ne.mpr h, beq_eq_false_iff_ne.mpr this]
mutual
theorem eqv_toD : ∀ p q : PV, eqOk p = true → eqOk q = true → PyData.eqv (toD p) (toD q) = eqP p q
  | .non, q, _, h => by cases q <;> simp [eqOk] at h <;> simp [toD, PyData.eqv, eqP]
  | .bl b, q, _, h => by cases q <;> simp [eqOk] at h <;> simp [toD, PyData.eqv, eqP]
  | .int i, q, _, h => by cases q <;> simp [eqOk] at h <;> simp [toD, PyData.eqv, eqP]
  | .str s, q, _, h => by cases q <;> simp [eqOk] at h <;> simp [toD, PyData.eqv, eqP, mkS_beq]
  | .tup xs, q, h0, h => by
    cases q <;> simp [eqOk] at h <;> simp only [toD, PyData.eqv, eqP]
    exact eqv_toDs xs _ (by simpa [eqOk] using h0) h
  | .lst xs, q, h0, h => by
    cases q <;> simp [eqOk] at h <;> simp only [toD, PyData.eqv, eqP]
    exact eqv_toDs xs _ (by simpa [eqOk] using h0) h
  | .dk _, _, h, _ => by simp [eqOk] at h
  | .dt _, _, h, _ => by simp [eqOk] at h
  | .scr _, _, h, _ => by simp [eqOk] at h
theorem eqv_toDs : ∀ ps qs : List PV, eqOks ps = true → eqOks qs = true → PyData.eqvAll (toDs ps) (toDs qs) = eqPs ps qs
  | [], [], _, _ => by simp [toDs, PyData.eqvAll, eqPs]
  | [], _ :: _, _, _ => by simp [toDs, PyData.eqvAll, eqPs]
  | _ :: _, [], _, _ => by simp [toDs, PyData.eqvAll, eqPs]
  | x :: xs, y :: ys, h, h' => by
    simp only [eqOks, Bool.and_eq_true] at h h'
    simp only [toDs, PyData.eqvAll, eqPs, eqv_toD x y h.1 h'.1, eqv_toDs xs ys h.2 h'.2]
end

/-! ### the layer's rules, joined -/
section
variable {X : Cx}
abbrev room2 (X : Cx) : Prop := X.A.units + 600 < cLine
def rEqZ (K : PySem.W.Frag) (neg : Bool) : R2 := fun x y H Q => ∃ d e, Dp K H x d ∧ Dp K H y e ∧ d.canLay0 = true ∧ e.canLay0 = true ∧ min d.depth e.depth ≤ maxDep ∧ Q (.bl (neg ^^ PyData.eqv d e)) H
theorem op_eqZ (hu : room2 X) : OpR X (compareOp .Eq) (rEqZ X.K false) := by
  intro pins s σ H x y v u Q I rx ry h
  obtain ⟨d, e, hd, he, sd, se, hm, q⟩ := h
  obtain ⟨as, r1⟩ := Dp.reads I d x v hd rx
  obtain ⟨bs, r2⟩ := Dp.reads I e y u he ry
  have hu' : X.A.units + min d.depth e.depth < cLine := by
    have h1 : X.A.units + 600 < cLine := hu
    have h2 : maxDep = 500 := rfl
    omega
  exact SeqAt.compareEq_reads r1 r2 sd se hu' ⟨.bl _, H, I, by simp [L2.RelV], q⟩
theorem op_neZ (hu : room2 X) : OpR X (compareOp .NotEq) (rEqZ X.K true) := by
  intro pins s σ H x y v u Q I rx ry h
  obtain ⟨d, e, hd, he, sd, se, hm, q⟩ := h
  obtain ⟨as, r1⟩ := Dp.reads I d x v hd rx
  obtain ⟨bs, r2⟩ := Dp.reads I e y u he ry
  have hu' : X.A.units + min d.depth e.depth < cLine := by
    have h1 : X.A.units + 600 < cLine := hu
    have h2 : maxDep = 500 := rfl
    omega
  exact SeqAt.compareNe_reads r1 r2 sd se hu' ⟨.bl _, H, I, by simp [L2.RelV], q⟩
theorem op_inD (hu : room2 X) : OpR X (compareOp .In) (fun y x H Q => ∃ a o, x = .ref a ∧ DGet H a y o ∧ Q (.bl o.isSome) H) := by
  intro pins s σ H y x v u Q I ry rx h
  obtain ⟨a, o, ex, g, q⟩ := h
  subst ex
  obtain rfl : u = Value.ref a := rx
  exact d_in (by have h1 : X.A.units + 600 < cLine := hu; omega) I g ry fun s3 I3 => ⟨.bl o.isSome, H, I3, rfl, q⟩
theorem op_ninD (hu : room2 X) : OpR X (compareOp .NotIn) (fun y x H Q => ∃ a o, x = .ref a ∧ DGet H a y o ∧ Q (.bl (!o.isSome)) H) := by
  intro pins s σ H y x v u Q I ry rx h
  obtain ⟨a, o, ex, g, q⟩ := h
  subst ex
  obtain rfl : u = Value.ref a := rx
  exact d_notIn (by have h1 : X.A.units + 600 < cLine := hu; omega) I g ry fun s3 I3 => ⟨.bl (!o.isSome), H, I3, rfl, q⟩
theorem ix_dict (hu : room2 X) : IxR X (fun x y H Q => ∃ a v, x = .ref a ∧ DGet H a y (some v) ∧ Q v H) := by
  intro value slice pins s σ H x y v u Q I rx ry h hs
  obtain ⟨a, z, ex, g, q⟩ := h
  subst ex
  obtain rfl : v = Value.ref a := rx
  have hT := dict_typeIs I g
  have h₂ : wpAny (model X.prog X.w) X.A (getItem (.ref a) u) (EP X pins σ Q) X.xe s := d_getItem (by have h1 : X.A.units + 600 < cLine := hu; omega) I g ry fun w' s3 I3 rw' => ⟨z, H, I3, rw', q⟩
  unfold subscriptTail
  refine wpAny_bind ?_
  rw [getitemInPython_of_ne hT.not_modules]
  refine wpAny_bind (wpAny_specialOf hT PySem.F.slot_dict_getitem.lookup ?_)
  have fin : wpAny (model X.prog X.w) X.A (subscripted slice false (.ref a) u) (fun r s₃ => wpAny (model X.prog X.w) X.A (letTemporaryGo value (.ref a) r >>= fun _ => pure r) (EP X pins σ Q) X.xe s₃) X.xe s := by
    rw [hs]
    exact wpAny_operating (wpAny_mono h₂ (fun r s₃ h₃ => wpAny_bind (wpAny_letTemporaryGo (wpAny_pure h₃))) fun _ _ x => x)
  first
    | exact wpAny_pure (wpAny_bind fin)
    | exact wpAny_bind (wpAny_pure (wpAny_bind fin))
    | exact wpAny_bind fin
def rIxD : R2 := fun x y H Q => ∃ a v, x = .ref a ∧ DGet H a y (some v) ∧ Q v H
def rIxZ (K : PySem.W.Frag) : R2 := fun x y H Q => rIxL K x y H Q ∨ rIxT K x y H Q ∨ rIxS x y H Q ∨ rIxD x y H Q
theorem ix_Z (hu : room2 X) : IxR X (rIxZ X.K) := ix_list.or (ix_tup.or (ix_str.or (ix_dict hu)))

section
open PySem.P
variable {X : Cx}
/-- a text, so many times -/
def repS (z : Str) (n : Int) : Str := ⟨((List.replicate n.toNat z.cps.toList).flatten).toArray⟩
theorem foldl_cps (n : Nat) (a b : Array Nat) : ((List.replicate n a).foldl (· ++ ·) b).toList = b.toList ++ (List.replicate n a.toList).flatten := by
  induction n generalizing b with
  | zero => simp
  | succ n ih =>
    rw [List.replicate_succ, List.foldl_cons, ih, List.replicate_succ, List.flatten_cons, Array.toList_append, List.append_assoc]
def rStrRep : R2 := fun x y H Q => ∃ (z : Str) (n : Int), x = .str z ∧ y = .int n ∧ -(2 ^ 30) < n ∧ n < 2 ^ 30 ∧ z.length * n.toNat ≤ sizeLine ∧ z.length ≤ sizeLine ∧ Q (.str (repS z n)) H
theorem op_rep_str : OpR X (binaryOp .Mult) rStrRep := by
  intro pins s σ H x y v u Q I rx ry h
  obtain ⟨z, n, rfl, rfl, h0, h1, hz, hz1, q⟩ := h
  obtain ⟨t, rfl⟩ := rx
  obtain ⟨t', rfl⟩ := ry
  have hline : sizeLine = 16777216 := rfl
  have b1 : decide (n < -(2 ^ 63 : Int)) = false := decide_eq_false (by omega)
  have b2 : decide (n ≥ (2 ^ 63 : Int)) = false := decide_eq_false (by omega)
  refine PySem.P.mul_str (by rw [b1, b2]; rfl) (fun hn _ => ?_) (fun hn _ => ?_) ?_
  · have hn' : 0 < n := by omega
    have : (2 : Int) ^ 32 ≤ (2 ^ 63 - 1) / n := by
      rw [Int.le_ediv_iff_mul_le hn']
      have : (2 : Int) ^ 32 * n ≤ 2 ^ 32 * 2 ^ 30 := Int.mul_le_mul_of_nonneg_left (by omega) (by decide)
      omega
    omega
  · unfold Builtin.Str.tooLong
    exact decide_eq_false (by omega)
  · have hr : (repS z n).length ≤ sizeLine := by
      show ((List.replicate n.toNat z.cps.toList).flatten).toArray.size ≤ _
      rw [List.size_toArray, List.length_flatten, List.map_replicate, List.sum_replicate_nat, Nat.mul_comm, Array.length_toList]
      exact hz
    by_cases hn : n < 1
    · rw [if_pos hn]
      have e : repS z n = Str.empty := by
        unfold repS
        rw [show n.toNat = 0 by omega]; rfl
      rw [e] at q hr
      exact ⟨hr, .str _, H, I.tok _, ⟨_, rfl⟩, q⟩
    · rw [if_neg hn]
      by_cases h2 : (n == 1 || z.length == 0) = true
      · rw [if_pos h2]
        have e : repS z n = z := by
          unfold repS
          simp only [Bool.or_eq_true, beq_iff_eq] at h2
          rcases h2 with h2 | h2
          · subst h2
            simp
          · have hc : z.cps = #[] := Array.eq_empty_of_size_eq_zero h2
            obtain ⟨c⟩ := z
            simp only at hc
            subst hc
            simp
        rw [e] at q
        exact ⟨.str z, H, I, ⟨t, rfl⟩, q⟩
      · rw [if_neg h2]
        have e : (⟨(List.replicate n.toNat z.cps).foldl (· ++ ·) #[]⟩ : Str) = repS z n := by
          unfold repS
          congr 1
          apply Array.toList_inj.mp
          rw [foldl_cps]
          simp
        rw [e]
        exact ⟨hr, .str _, H, I.tok _, ⟨_, rfl⟩, q⟩
/-! ### a short text turned round -/
def revS (z : Str) : Str := ⟨z.cps.toList.reverse.toArray⟩
def tRevS (te : TE) : TE := fun σ H Q => te σ H fun x H1 => ∃ z : Str, x = .str z ∧ z.length ≤ 2 ∧ Q (.str (revS z)) H1
theorem rev_two (z : Str) (h : z.length ≤ 2) : (⟨((Builtin.Str.strSliceIndices none none (-1) z.length).filterMap (z.cps[·]?)).toArray⟩ : Str) = revS z := by
  obtain ⟨⟨l⟩⟩ := z
  have h' : l.length ≤ 2 := h
  match l, h' with
  | [], _ => rfl
  | [a], _ =>
    have e : Builtin.Str.strSliceIndices none none (-1) 1 = [0] := by decide +kernel
    show (⟨((Builtin.Str.strSliceIndices none none (-1) 1).filterMap _).toArray⟩ : Str) = _
    rw [e]; rfl
  | [a, b], _ =>
    have e : Builtin.Str.strSliceIndices none none (-1) 2 = [1, 0] := by decide +kernel
    show (⟨((Builtin.Str.strSliceIndices none none (-1) 2).filterMap _).toArray⟩ : Str) = _
    rw [e]; rfl
theorem pe_revS {e : Expr} {te : TE} {k : Nat} {p1 p2 p3 pos : Pos} (he : PE X e te) : PE X (.Subscript e (.Slice none none (some (.UnaryOp .USub (.Constant (.int 1) k p1) p2)) p3) pos) (tRevS te) := by
  refine ⟨fun pins s σ H Q I h => ?_⟩
  refine Subscript_ (thn (he.run pins s σ H _ I h) fun v s1 ⟨x, H1, I1, r1, q1⟩ => ?_)
  obtain ⟨z, rfl, hz, q⟩ := q1
  obtain ⟨t, rfl⟩ := r1
  have hst : PO X (some (.UnaryOp .USub (.Constant (.int 1) k p1) p2)) (tPart (tUn (rU fun i => .int (-i)) (tC (.int 1)))) := po_some (pe_un un_neg pe_int)
  refine wpAny_Slice (thn (po_none.run pins s1 σ H1 (fun o H2 => o = none ∧ H2 = H1) I1 ⟨rfl, rfl⟩) fun vl s2 ⟨l, H2, I2, pl, el, e2⟩ => ?_)
  subst el e2
  refine thn (po_none.run pins s2 σ H2 (fun o H3 => o = none ∧ H3 = H2) I2 ⟨rfl, rfl⟩) fun vu s3 ⟨u, H3, I3, pu, eu, e3⟩ => ?_
  subst eu e3
  refine thn (hst.run pins s3 σ H3 (fun o H4 => o = some (-1) ∧ H4 = H3) I3 ⟨1, rfl, -1, rfl, rfl, rfl⟩) fun vs s4 ⟨o, H4, I4, ps, eo, e4⟩ => ?_
  subst eo e4
  have I5 : Inv X pins σ H4 { s4 with heap := s4.heap.push { cls := .type "slice", data := .fields #[vl, vu, vs] } } := I4.kept (t' := s4.toks) fun b ob q => Heap.get?_push_of_some _ q
  obtain ⟨l', rfl, el1⟩ := IsPart.raw pl
  obtain ⟨u', rfl, eu1⟩ := IsPart.raw pu
  obtain ⟨s', rfl, es1⟩ := IsPart.raw ps
  show wpAny (model X.prog X.w) X.A (subscriptTail e (.Slice none none (some (.UnaryOp .USub (.Constant (.int 1) k p1) p2)) p3) (.str z t) (.ref s4.heap.objs.size)) (EP X pins σ Q) X.xe { s4 with heap := s4.heap.push { cls := .type "slice", data := .fields #[partValue l', partValue u', partValue s'] } }
  refine tail_any (ops := [.str z t, .ref s4.heap.objs.size]) (T := "str") (typeIs_str _ _ _) F.slot_str_getitem.lookup ?_ (by with_unfolding_all rfl)
  refine wpAny_getItem_str_slice (l := l') (u := u') (st := s') ⟨_, Heap.get?_push_size _ rfl, rfl, rfl⟩ (by rw [es1]; decide) ?_
  show Made.post (if (((s'.map (·.1)).getD 1 == 1 && (Builtin.Str.strSliceIndices (l'.map (·.1)) (u'.map (·.1)) ((s'.map (·.1)).getD 1) z.length).length == z.length) = true) then Made.val (.str z t)
    else Made.str ⟨((Builtin.Str.strSliceIndices (l'.map (·.1)) (u'.map (·.1)) ((s'.map (·.1)).getD 1) z.length).filterMap (z.cps[·]?)).toArray⟩) (EP X pins σ Q) _
  rw [es1, el1, eu1]
  rw [if_neg (by simp)]
  have er := rev_two z hz
  show Made.post (Made.str ⟨((Builtin.Str.strSliceIndices none none (-1) z.length).filterMap (z.cps[·]?)).toArray⟩) (EP X pins σ Q) _
  rw [er]
  have hl : (revS z).length ≤ sizeLine := by
    have hline : sizeLine = 16777216 := rfl
    show ((z.cps.toList.reverse).toArray).size ≤ _
    rw [List.size_toArray, List.length_reverse, Array.length_toList]
    have : z.cps.size ≤ 2 := hz
    omega
  exact ⟨hl, .str _, H4, I5.tok _, ⟨_, rfl⟩, q⟩
end
def rStrCat : R2 := fun x y H Q => ∃ i j, x = .str i ∧ y = .str j ∧ i.length + j.length ≤ sizeLine ∧ Q (.str (i ++ j)) H
def opB : BO → Operator
  | .add => .Add | .sub => .Sub | .mul => .Mult | .fdiv => .FloorDiv | .mod => .Mod | .pow => .Pow
def rBin (K : PySem.W.Frag) : BO → R2
  | .add => fun x y H Q => rI0 (fun i j => .int (i + j)) x y H Q ∨ rStrCat x y H Q ∨ rCat x y H Q ∨ rCatA K x y H Q
  | .sub => rI0 fun i j => .int (i - j)
  | .mul => fun x y H Q => rI CMul (fun i j => .int (i * j)) x y H Q ∨ rStrRep x y H Q
  | .fdiv => rI CDiv fun i j => .int (i / j)
  | .mod => rI (fun _ j => 0 < j) fun i j => .int (i % j)
  | .pow => rI CPow fun i j => .int (i ^ j.toNat)
theorem op_bin : ∀ b : BO, OpR X (binaryOp (opB b)) (rBin X.K b)
  | .add => op_add.or (op_add_str.or (op_cat.or op_catA))
  | .sub => op_sub
  | .mul => op_mul.or op_rep_str
  | .fdiv => op_fdiv
  | .mod => op_mod
  | .pow => op_pow
def rAug : BO → R2
  | .add => fun x y H Q => rI0 (fun i j => .int (i + j)) x y H Q ∨ rStrCat x y H Q
  | .sub => rI0 fun i j => .int (i - j)
  | .mul => rI CMul fun i j => .int (i * j)
  | .fdiv => rI CDiv fun i j => .int (i / j)
  | .mod => rI (fun _ j => 0 < j) fun i j => .int (i % j)
  | .pow => fun _ _ _ _ => False
theorem op_aug : ∀ b : BO, OpR X (inplaceOp (opB b)) (rAug b)
  | .add => iop_add.or iop_add_str
  | .sub => iop_sub
  | .mul => iop_mul
  | .fdiv => iop_fdiv
  | .mod => iop_mod
  | .pow => fun _ _ _ _ _ _ _ _ _ _ _ _ h => h.elim
def opC : CO → CmpOp
  | .eq => .Eq | .ne => .NotEq | .lt => .Lt | .le => .LtE | .gt => .Gt | .ge => .GtE | .in_ => .In | .nin => .NotIn | .is_ => .Is | .isnt => .IsNot
/-- texts in order -/
def rStrC (f : List Nat → List Nat → Bool) : R2 := fun x y H Q => ∃ i j : Str, x = .str i ∧ y = .str j ∧ Q (.bl (f i.cps.toList j.cps.toList)) H
def rBlC (f : Bool → Bool → Bool) : R2 := fun x y H Q => ∃ a b : Bool, x = .bl a ∧ y = .bl b ∧ Q (.bl (f a b)) H
/-- one sign in a text -/
def rSgn (pos : Bool) : R2 := fun x y H Q => ∃ (c : Nat) (z : Str), x = .str ⟨#[c]⟩ ∧ y = .str z ∧ Q (.bl (decide (c ∈ z.cps.toList) == pos)) H
theorem op_inSgn : OpR X (compareOp .In) (rSgn true) := by
  intro pins s σ H x y u v Q I ru rv ⟨c, z, ex, ey, q⟩
  exact op_in_sign pins s σ H x y u v Q I ru rv ⟨c, z, ex, ey, by simpa using q⟩
theorem op_ninSgn : OpR X (compareOp .NotIn) (rSgn false) := by
  intro pins s σ H x y u v Q I ru rv ⟨c, z, ex, ey, q⟩
  exact op_notIn_sign pins s σ H x y u v Q I ru rv ⟨c, z, ex, ey, by simpa using q⟩
def rCmp (K : PySem.W.Frag) : CO → R2
  | .eq => rEqZ K false
  | .ne => rEqZ K true
  | .lt => fun x y H Q => rI0 (fun i j => .bl (decide (i < j))) x y H Q ∨ rStrC (fun i j => decide (i < j)) x y H Q
  | .le => fun x y H Q => rI0 (fun i j => .bl (decide (i ≤ j))) x y H Q ∨ rStrC (fun i j => !decide (j < i)) x y H Q
  | .gt => fun x y H Q => rI0 (fun i j => .bl (decide (j < i))) x y H Q ∨ rStrC (fun i j => decide (j < i)) x y H Q
  | .ge => fun x y H Q => rI0 (fun i j => .bl (decide (j ≤ i))) x y H Q ∨ rStrC (fun i j => !decide (i < j)) x y H Q
  | .is_ => rBlC fun a b => decide (a = b)
  | .isnt => rBlC fun a b => !decide (a = b)
  | .in_ => fun x y H Q => rIn K false x y H Q ∨ (∃ a o, y = .ref a ∧ DGet H a x o ∧ Q (.bl o.isSome) H) ∨ rSgn true x y H Q
  | .nin => fun x y H Q => rIn K true x y H Q ∨ (∃ a o, y = .ref a ∧ DGet H a x o ∧ Q (.bl (!o.isSome)) H) ∨ rSgn false x y H Q
theorem op_cmp (hu : room2 X) : ∀ c : CO, OpR X (compareOp (opC c)) (rCmp X.K c)
  | .eq => op_eqZ hu
  | .ne => op_neZ hu
  | .lt => op_lt.or op_lt_str
  | .le => op_le.or op_le_str
  | .gt => op_gt.or op_gt_str
  | .ge => op_ge.or op_ge_str
  | .is_ => op_is_bl
  | .isnt => op_isnot_bl
  | .in_ => op_in_seq.or ((op_inD hu).or op_inSgn)
  | .nin => op_notIn_seq.or ((op_ninD hu).or op_ninSgn)
end
end Z
end

section
/-! ZH: the readings of operators, subscripts, truth. -/
namespace Z
open PySem PySem.Spec PyProof.Rows L2
section
variable {M : Nm} {K : PySem.W.Frag} {W : WX} {σ : L2.St} {F F' H H' : Hp} {ρ ρ' : List Addr} {st : Store}
theorem PK.int {i : Int} {v : V} (h : PK K F H (.int i) v) : v = .int i := by
  have h' : RP K F (.int i) v := h
  simpa only [RP] using h'
theorem PK.str {s : Sg} {v : V} (h : PK K F H (.str s) v) : v = .str (mkS s) ∧ okS s = true := by
  have h' : RP K F (.str s) v := h
  simpa only [RP] using h'
theorem okS_append {a b : Sg} (h : okS a = true) (h' : okS b = true) : okS (a ++ b) = true := by
  simp only [okS, List.all_append, Bool.and_eq_true] at *
  exact ⟨h, h'⟩
theorem mkS_append (a b : Sg) : mkS (a ++ b) = mkS a ++ mkS b := by
  show (⟨(a ++ b).toArray⟩ : Str) = ⟨a.toArray ++ b.toArray⟩
  rw [List.append_toArray]
theorem mulOk_ok {i j : Int} (h : mulOk i j = true) : CMul i j := by
  simp only [mulOk, Bool.or_eq_true, Bool.and_eq_true, decide_eq_true_eq] at h
  exact h
theorem divOk_ok {i j : Int} (h : divOk j = true) : CDiv i j := by
  simp only [divOk, Bool.and_eq_true, decide_eq_true_eq] at h
  exact h
theorem powOk_ok {i j : Int} (h : powOk i j = true) : CPow i j := by
  simp only [powOk, Bool.and_eq_true, decide_eq_true_eq] at h
  exact ⟨h.1.1, h.1.2, h.2⟩
/-- a tree comes, made in a new object -/
theorem PostE.made {Q : VK} {p : PV} {o : HO} {a : Addr} (q : PostE M K W σ F ρ H Q (.ok (.pv p) st)) (hh : HR' M K F ρ H st) (na : H a = none) (r : RP K (upd F a o) p (.ref a)) : Q (.ref a) (upd H a o) := by
  obtain ⟨g, h⟩ := hh.new na o
  exact q _ _ _ _ g h (by simp only [RL]; exact r)
theorem rd_binP {op : BO} {p q z : PV} {v w : V} {Q : VK} (hh : HR' M K F ρ H st) (hp : PK K F H p v) (hq : PK K F H q w) (e : doBin op p q = some z) (post : PostE M K W σ F ρ H Q (.ok (.pv z) st)) : rBin K op v w H Q := by
  cases op <;> cases p <;> simp only [doBin, reduceCtorEq] at e <;> cases q <;> simp only [doBin, Option.some.injEq, reduceCtorEq] at e
  case add.int.int i j =>
    subst e
    exact .inl ⟨i, j, hp.int, hq.int, post.tree hh (by simp only [RP])⟩
  case add.str.str x y =>
    split at e
    · rename_i hl
      simp only [Option.some.injEq] at e
      subst e
      refine .inr (.inl ⟨mkS x, mkS y, hp.str.1, hq.str.1, by rw [mkS_len, mkS_len, line_eq]; exact hl, post.tree hh ?_⟩)
      simp only [RP]
      exact ⟨by rw [mkS_append], okS_append hp.str.2 hq.str.2⟩
    · cases e
  case add.tup.tup xs ys =>
    split at e
    · rename_i hl
      simp only [Option.some.injEq] at e
      subst e
      simp only [PK, RP] at hp hq
      obtain ⟨a, vs, ea, ha, ra⟩ := hp
      obtain ⟨b, ws, eb, hb, rb⟩ := hq
      have ha' := hh.sub _ _ ha
      have hb' := hh.sub _ _ hb
      refine .inr (.inr (.inr ⟨a, b, vs, ws, ea, eb, .inl (.inl ha'), .inl (.inl hb'), by rw [← ra.length, ← rb.length, line_eq]; exact hl, fun e0 => ?_, fun _ e1 => ?_, fun _ _ p np => ?_⟩))
      · subst e0
        have : xs = [] := List.length_eq_zero_iff.mp (by rw [ra.length]; rfl)
        subst this
        exact post.tree hh (by rw [List.nil_append]; simp only [RP]; exact ⟨b, ws, rfl, hb, rb⟩)
      · subst e1
        have : ys = [] := List.length_eq_zero_iff.mp (by rw [rb.length]; rfl)
        subst this
        exact post.tree hh (by rw [List.append_nil]; simp only [RP]; exact ⟨a, vs, rfl, ha, ra⟩)
      · refine post.made hh np ?_
        simp only [RP]
        exact ⟨p, vs ++ ws, rfl, upd_same, RPs.mono (sub_upd (hh.fresh np)) _ _ (ra.append rb)⟩
    · cases e
  case add.lst.lst xs ys =>
    split at e
    · rename_i hl
      simp only [Option.some.injEq] at e
      subst e
      obtain ⟨a, vs, ea, ha, ra⟩ := hp
      obtain ⟨b, ws, eb, hb, rb⟩ := hq
      refine .inr (.inr (.inl ⟨a, b, vs, ws, ea, eb, ha, hb, by rw [← ra.length, ← rb.length, line_eq]; exact hl, fun p np => ?_⟩))
      refine post.made hh np ?_
      simp only [RP]
      exact ⟨p, vs ++ ws, rfl, upd_same, RPs.mono (sub_upd (hh.fresh np)) _ _ (ra.append rb)⟩
    · cases e
  case sub.int.int i j =>
    subst e
    exact ⟨i, j, hp.int, hq.int, post.tree hh (by simp only [RP])⟩
  case mul.int.int i j =>
    split at e
    · rename_i hl
      simp only [Option.some.injEq] at e
      subst e
      exact .inl ⟨i, j, hp.int, hq.int, mulOk_ok hl, post.tree hh (by simp only [RP])⟩
    · cases e
  case mul.str.int x k =>
    split at e
    · rename_i hl
      obtain ⟨h1, h2, h3, h4⟩ := hl
      simp only [Option.some.injEq] at e
      subst e
      refine .inr ⟨mkS x, k, hp.str.1, hq.int, h1, h2, by rw [mkS_len, line_eq]; exact h3, by rw [mkS_len, line_eq]; exact h4, post.tree hh ?_⟩
      simp only [RP]
      refine ⟨by unfold repS mkS; simp, ?_⟩
      have hx := hp.str.2
      simp only [okS, List.all_eq_true, List.mem_flatten, List.mem_replicate] at hx ⊢
      rintro c ⟨l, ⟨_, rfl⟩, hc⟩
      exact hx c hc
    · cases e
  case fdiv.int.int i j =>
    split at e
    · rename_i hl
      simp only [Option.some.injEq] at e
      subst e
      exact ⟨i, j, hp.int, hq.int, divOk_ok hl, post.tree hh (by simp only [RP])⟩
    · cases e
  case mod.int.int i j =>
    split at e
    · rename_i hl
      simp only [Option.some.injEq] at e
      subst e
      exact ⟨i, j, hp.int, hq.int, hl, post.tree hh (by simp only [RP])⟩
    · cases e
  case pow.int.int i j =>
    split at e
    · rename_i hl
      simp only [Option.some.injEq] at e
      subst e
      exact ⟨i, j, hp.int, hq.int, powOk_ok hl, post.tree hh (by simp only [RP])⟩
    · cases e
theorem rd_bin (op : BO) : RdV2 M K W (rBin K op) (bin op) := by
  intro σ H Q F ρ st x y v w res hh rx ry e p
  unfold bin at e
  cases ex : peek st x with
  | none => simp [ex] at e
  | some a =>
    cases ey : peek st y with
    | none => simp [ex, ey] at e
    | some b =>
      simp only [ex, ey] at e
      cases eb : doBin op a b with
      | none => simp [eb, okP] at e
      | some z =>
        simp only [eb, okP, Option.some.injEq] at e
        subst e
        exact rd_binP hh (peek_ok hh rx ex) (peek_ok hh ry ey) eb p

/-! ### flat things -/
theorem flat_ok {p : PV} {v : V} (f : flat p = true) (h : PK K F H p v) : flatV v = true := by
  cases p <;> simp [flat] at f <;> (simp only [PK, RP] at h) <;> first | (subst h; rfl) | (obtain ⟨h, _⟩ := h; subst h; rfl)
theorem flat_eq {p q : PV} {v w : V} (f : flat p = true) (f' : flat q = true) (h : PK K F H p v) (h' : PK K F H q w) : eqV v w = eqP p q := by
  cases p <;> simp [flat] at f <;> cases q <;> simp [flat] at f' <;> simp only [PK, RP] at h h' <;>
    first
      | (subst h h'; simp [eqV, eqP])
      | (obtain ⟨h, _⟩ := h; obtain ⟨h', _⟩ := h'; subst h h'; simp [eqV, eqP, mkS_beq])
      | (obtain ⟨h, _⟩ := h; subst h h'; simp [eqV, eqP])
      | (obtain ⟨h', _⟩ := h'; subst h h'; simp [eqV, eqP])
theorem flats_ok : ∀ {ps : List PV} {vs : List V}, (ps.all flat) = true → RPs K F ps vs → vs.all flatV = true
  | [], vs, _, h => by simp only [RPs] at h; subst h; rfl
  | x :: xs, vs, f, h => by
    simp only [RPs] at h
    obtain ⟨v, r, e1, e2, e3⟩ := h
    subst e1
    simp only [List.all_cons, Bool.and_eq_true] at f ⊢
    exact ⟨flat_ok (H := F) f.1 (PK.of (Sub.refl F) e2), flats_ok f.2 e3⟩
theorem inV_ok {x : PV} {v : V} (fx : flat x = true) (hx : PK K F H x v) (s : Sub F H) : ∀ {ps : List PV} {vs : List V}, (ps.all flat) = true → RPs K F ps vs → inV v vs = ps.any fun y => eqP y x
  | [], vs, _, h => by simp only [RPs] at h; subst h; rfl
  | y :: xs, vs, f, h => by
    simp only [RPs] at h
    obtain ⟨w, r, e1, e2, e3⟩ := h
    subst e1
    simp only [List.all_cons, Bool.and_eq_true] at f
    have ih := inV_ok fx hx s f.2 e3
    unfold inV at ih ⊢
    rw [List.any_cons, List.any_cons, ih, flat_eq f.1 fx (PK.of s e2) hx]
theorem RPs.any_sq (s : Sub F H) {p : PV} {v : V} {xs : List PV} (hp : p = .lst xs ∨ p = .tup xs) (h : PK K F H p v) : ∃ a vs, v = .ref a ∧ (SqL K H a vs ∨ SqT K H a vs) ∧ RPs K F xs vs := by
  rcases hp with e | e
  · subst e
    obtain ⟨a, vs, e1, e2, e3⟩ := h
    exact ⟨a, vs, e1, .inl (.inl (.inl e2)), e3⟩
  · subst e
    simp only [PK, RP] at h
    obtain ⟨a, vs, e1, e2, e3⟩ := h
    exact ⟨a, vs, e1, .inr (.inl (.inl (s _ _ e2))), e3⟩

/-! ### keys -/
theorem kV_of {p : PV} {k : Ky} {v : V} (e : keyK p = some k) (h : PK K F H p v) : v = kV (kyS k) ∧ okK k = true := by
  cases p <;> simp [keyK] at e
  · subst e
    exact ⟨h.int, rfl⟩
  · subst e
    exact ⟨h.str.1, h.str.2⟩
theorem kVs_of : ∀ {ps : List PV} {ks : List Ky} {vs : List V}, keyKs ps = some ks → RPs K F ps vs → vs = (ks.map kyS).map kV ∧ ks.all okK = true
  | [], ks, vs, e, h => by
    simp [keyKs] at e; subst e
    simp only [RPs] at h; subst h
    exact ⟨rfl, rfl⟩
  | x :: xs, ks, vs, e, h => by
    simp only [RPs] at h
    obtain ⟨v, r, e1, e2, e3⟩ := h
    subst e1
    unfold keyKs at e
    cases q : keyK x with
    | none => simp [q] at e
    | some k =>
      simp only [q, Option.map_eq_some_iff] at e
      obtain ⟨ks', e4, e5⟩ := e
      subst e5
      obtain ⟨h1, h2⟩ := kV_of (H := F) q (PK.of (Sub.refl F) e2)
      obtain ⟨h3, h4⟩ := kVs_of e4 e3
      exact ⟨by rw [h1, h3]; rfl, by simp [h2, h4]⟩
theorem valV_k : ∀ {kvs : List (Ky × PV)} {ks : List (Key × V)} (k : Ky), RPk K F kvs ks → (look k kvs = none ∧ valV ks (kyS k) = none) ∨ ∃ p v, look k kvs = some p ∧ valV ks (kyS k) = some v ∧ RP K F p v
  | [], ks, k, h => by simp only [RPk] at h; subst h; exact .inl ⟨rfl, rfl⟩
  | (j, p) :: r, ks, k, h => by
    simp only [RPk] at h
    obtain ⟨v, s, e1, e2, e3, e4⟩ := h
    subst e1
    by_cases hj : j = k
    · subst hj
      exact .inr ⟨p, v, by simp [look], valV_pos rfl, e3⟩
    · have hn : ¬ kyS j = kyS k := fun e => hj (kyS_inj e)
      rw [valV_neg (p := (kyS j, v)) hn]
      simp only [look, if_neg hj]
      exact valV_k k e4
theorem valV_t : ∀ {kvs : List (List Ky × PV)} {ks : List (List Key × V)} (k : List Ky), RPt K F kvs ks → (look k kvs = none ∧ valV ks (k.map kyS) = none) ∨ ∃ p v, look k kvs = some p ∧ valV ks (k.map kyS) = some v ∧ RP K F p v
  | [], ks, k, h => by simp only [RPt] at h; subst h; exact .inl ⟨rfl, rfl⟩
  | (j, p) :: r, ks, k, h => by
    simp only [RPt] at h
    obtain ⟨v, s, e1, e2, e3, e4⟩ := h
    subst e1
    by_cases hj : j = k
    · subst hj
      exact .inr ⟨p, v, by simp [look], valV_pos rfl, e3⟩
    · have hn : ¬ j.map kyS = k.map kyS := fun e => hj (kySs_inj e)
      rw [valV_neg (p := (j.map kyS, v)) hn]
      simp only [look, if_neg hj]
      exact valV_t k e4
theorem valV_kL : ∀ {kvs : List (Ky × LV)} {ks : List (Key × V)} (k : Ky), RLk K F ρ kvs ks → (look k kvs = none ∧ valV ks (kyS k) = none) ∨ ∃ p v, look k kvs = some p ∧ valV ks (kyS k) = some v ∧ RL K F ρ p v
  | [], ks, k, h => by simp only [RLk] at h; subst h; exact .inl ⟨rfl, rfl⟩
  | (j, p) :: r, ks, k, h => by
    simp only [RLk] at h
    obtain ⟨v, s, e1, e2, e3, e4⟩ := h
    subst e1
    by_cases hj : j = k
    · subst hj
      exact .inr ⟨p, v, by simp [look], valV_pos rfl, e3⟩
    · have hn : ¬ kyS j = kyS k := fun e => hj (kyS_inj e)
      rw [valV_neg (p := (kyS j, v)) hn]
      simp only [look, if_neg hj]
      exact valV_kL k e4
theorem valV_tL : ∀ {kvs : List (List Ky × LV)} {ks : List (List Key × V)} (k : List Ky), RLt K F ρ kvs ks → (look k kvs = none ∧ valV ks (k.map kyS) = none) ∨ ∃ p v, look k kvs = some p ∧ valV ks (k.map kyS) = some v ∧ RL K F ρ p v
  | [], ks, k, h => by simp only [RLt] at h; subst h; exact .inl ⟨rfl, rfl⟩
  | (j, p) :: r, ks, k, h => by
    simp only [RLt] at h
    obtain ⟨v, s, e1, e2, e3, e4⟩ := h
    subst e1
    by_cases hj : j = k
    · subst hj
      exact .inr ⟨p, v, by simp [look], valV_pos rfl, e3⟩
    · have hn : ¬ j.map kyS = k.map kyS := fun e => hj (kySs_inj e)
      rw [valV_neg (p := (j.map kyS, v)) hn]
      simp only [look, if_neg hj]
      exact valV_tL k e4
/-- the key of a dict of tuples lies as a tracked tuple -/
theorem kT_of (s : Sub F H) {p : PV} {k : List Ky} {v : V} (e : keyT p = some k) (h : PK K F H p v) : ∃ b, v = .ref b ∧ H b = some (.tup ((k.map kyS).map kV)) := by
  cases p <;> simp [keyT] at e
  rename_i xs
  simp only [PK, RP] at h
  obtain ⟨a, vs, e1, e2, e3⟩ := h
  obtain ⟨h1, _⟩ := kVs_of e e3
  exact ⟨a, e1, by rw [← h1]; exact s _ _ e2⟩
theorem kT_ok {p : PV} {k : List Ky} {v : V} (e : keyT p = some k) (h : PK K F H p v) : k.all okK = true := by
  cases p <;> simp [keyT] at e
  simp only [PK, RP] at h
  obtain ⟨a, vs, e1, e2, e3⟩ := h
  exact (kVs_of e e3).2
theorem look_isSome {κ α : Type} [DecidableEq κ] (k : κ) (kvs : List (κ × α)) : has k kvs = (look k kvs).isSome := rfl
theorem dget_k {kvs : List (Ky × PV)} {q : PV} {k : Ky} {v w : V} (hp : PK K F H (.dk kvs) v) (hq : PK K F H q w) (e : keyK q = some k) :
    ∃ a, v = .ref a ∧ ((look k kvs = none ∧ DGet H a w none) ∨ ∃ p z, look k kvs = some p ∧ DGet H a w (some z) ∧ RP K F p z) := by
  obtain ⟨a, ks, e1, e2, e3⟩ := hp
  obtain ⟨h1, _⟩ := kV_of e hq
  subst h1
  refine ⟨a, e1, ?_⟩
  have d := DGet.k (k := kyS k) e2
  rcases valV_k k e3 with ⟨l1, l2⟩ | ⟨p, z, l1, l2, l3⟩
  · rw [l2] at d; exact .inl ⟨l1, d⟩
  · rw [l2] at d; exact .inr ⟨p, z, l1, d, l3⟩
theorem dget_t (s : Sub F H) {kvs : List (List Ky × PV)} {q : PV} {k : List Ky} {v w : V} (hp : PK K F H (.dt kvs) v) (hq : PK K F H q w) (e : keyT q = some k) :
    ∃ a, v = .ref a ∧ ((look k kvs = none ∧ DGet H a w none) ∨ ∃ p z, look k kvs = some p ∧ DGet H a w (some z) ∧ RP K F p z) := by
  obtain ⟨a, ks, e1, e2, e3⟩ := hp
  obtain ⟨b, h1, h2⟩ := kT_of s e hq
  subst h1
  refine ⟨a, e1, ?_⟩
  have d := DGet.t e2 h2
  rcases valV_t k e3 with ⟨l1, l2⟩ | ⟨p, z, l1, l2, l3⟩
  · rw [l2] at d; exact .inl ⟨l1, d⟩
  · rw [l2] at d; exact .inr ⟨p, z, l1, d, l3⟩
theorem rd_eq {neg : Bool} {p q : PV} {c : Bool} {v w : V} {Q : VK} (hh : HR' M K F ρ H st) (hp : PK K F H p v) (hq : PK K F H q w) (e : opEq p q = some c) (post : PostE M K W σ F ρ H Q (.ok (.pv (.bl (neg ^^ c))) st)) : rEqZ K neg v w H Q := by
  unfold opEq at e
  split at e
  · rename_i hc
    simp only [Option.some.injEq] at e
    simp only [Bool.and_eq_true, decide_eq_true_eq] at hc
    obtain ⟨d1, c1⟩ := hp.dp hh.sub hc.1.1
    obtain ⟨d2, c2⟩ := hq.dp hh.sub hc.1.2
    refine ⟨_, _, d1, d2, c1, c2, by rw [depth_toD, depth_toD]; exact hc.2, ?_⟩
    rw [eqv_toD p q hc.1.1 hc.1.2, e]
    exact post.tree hh (by simp only [RP])
  · cases e
theorem rd_in {neg : Bool} {x : PV} {xs : List PV} {c : Bool} {p : PV} {v w : V} {Q : VK} (hh : HR' M K F ρ H st) (hx : PK K F H x v) (hp : p = .lst xs ∨ p = .tup xs) (hq : PK K F H p w) (e : inFlat x xs = some c)
    (post : PostE M K W σ F ρ H Q (.ok (.pv (.bl (if neg then !c else c))) st)) : rIn K neg v w H Q := by
  unfold inFlat at e
  split at e
  · rename_i hc
    simp only [Option.some.injEq] at e
    simp only [Bool.and_eq_true] at hc
    obtain ⟨a, vs, e1, e2, e3⟩ := RPs.any_sq hh.sub hp hq
    refine ⟨a, vs, e1, e2, flat_ok hc.1 hx, flats_ok hc.2 e3, ?_⟩
    rw [inV_ok hc.1 hx hh.sub hc.2 e3, e]
    exact post.tree hh (by simp only [RP])
  · cases e
theorem rd_sgn (pos : Bool) {x y : Sg} {c : Bool} {v w : V} {Q : VK} (hh : HR' M K F ρ H st) (hx : PK K F H (.str x) v) (hy : PK K F H (.str y) w) (e : inText x y = some c) (post : PostE M K W σ F ρ H Q (.ok (.pv (.bl (c == pos))) st)) : rSgn pos v w H Q := by
  unfold inText at e
  split at e
  · rename_i d
    simp only [Option.some.injEq] at e
    subst e
    refine ⟨d, mkS y, hx.str.1, hy.str.1, ?_⟩
    rw [mkS_cps]
    exact post.tree hh (by simp only [RP])
  · cases e
theorem rd_cmpP {op : CO} {p q : PV} {c : Bool} {v w : V} {Q : VK} (hh : HR' M K F ρ H st) (hp : PK K F H p v) (hq : PK K F H q w) (e : doCmp op p q = some c) (post : PostE M K W σ F ρ H Q (.ok (.pv (.bl c)) st)) : rCmp K op v w H Q := by
  cases op
  case eq => exact rd_eq (neg := false) hh hp hq (by simpa [doCmp] using e) (by simpa using post)
  case ne =>
    simp only [doCmp, Option.map_eq_some_iff] at e
    obtain ⟨d, e1, e2⟩ := e
    exact rd_eq (neg := true) hh hp hq e1 (by rw [Bool.true_xor, e2]; exact post)
  case lt =>
    cases p <;> cases q <;> simp only [doCmp, Option.some.injEq, reduceCtorEq] at e
    case int.int =>
      subst e
      exact .inl ⟨_, _, hp.int, hq.int, post.tree hh (by simp only [RP])⟩
    case str.str x y =>
      subst e
      refine .inr ⟨mkS x, mkS y, hp.str.1, hq.str.1, ?_⟩
      rw [mkS_cps, mkS_cps]
      exact post.tree hh (by simp only [RP])
  case le =>
    cases p <;> cases q <;> simp only [doCmp, Option.some.injEq, reduceCtorEq] at e
    case int.int =>
      subst e
      exact .inl ⟨_, _, hp.int, hq.int, post.tree hh (by simp only [RP])⟩
    case str.str x y =>
      subst e
      refine .inr ⟨mkS x, mkS y, hp.str.1, hq.str.1, ?_⟩
      rw [mkS_cps, mkS_cps]
      show Q (V.bl (!decide (y < x))) H
      rw [show (!decide (y < x)) = decide (x ≤ y) from by rw [← decide_not]; exact decide_eq_decide.mpr (by exact List.not_lt)]; exact post.tree hh (by simp only [RP])
  case gt =>
    cases p <;> cases q <;> simp only [doCmp, Option.some.injEq, reduceCtorEq] at e
    case int.int =>
      subst e
      exact .inl ⟨_, _, hp.int, hq.int, post.tree hh (by simp only [RP])⟩
    case str.str x y =>
      subst e
      refine .inr ⟨mkS x, mkS y, hp.str.1, hq.str.1, ?_⟩
      rw [mkS_cps, mkS_cps]
      exact post.tree hh (by simp only [RP])
  case ge =>
    cases p <;> cases q <;> simp only [doCmp, Option.some.injEq, reduceCtorEq] at e
    case int.int =>
      subst e
      exact .inl ⟨_, _, hp.int, hq.int, post.tree hh (by simp only [RP])⟩
    case str.str x y =>
      subst e
      refine .inr ⟨mkS x, mkS y, hp.str.1, hq.str.1, ?_⟩
      rw [mkS_cps, mkS_cps]
      show Q (V.bl (!decide (x < y))) H
      rw [show (!decide (x < y)) = decide (y ≤ x) from by rw [← decide_not]; exact decide_eq_decide.mpr (by exact List.not_lt)]; exact post.tree hh (by simp only [RP])
  case is_ =>
    cases p <;> cases q <;> simp only [doCmp, Option.some.injEq, reduceCtorEq] at e
    subst e
    simp only [PK, RP] at hp hq
    exact ⟨_, _, hp, hq, post.tree hh (by simp only [RP])⟩
  case isnt =>
    cases p <;> cases q <;> simp only [doCmp, Option.some.injEq, reduceCtorEq] at e
    subst e
    simp only [PK, RP] at hp hq
    exact ⟨_, _, hp, hq, post.tree hh (by simp only [RP])⟩
  case in_ =>
    by_cases hx : ∃ x y, p = .str x ∧ q = .str y
    · obtain ⟨x, y, rfl, rfl⟩ := hx
      exact .inr (.inr (rd_sgn true hh hp hq (by simpa [doCmp] using e) (by simpa using post)))
    cases q <;> simp only [doCmp, Option.map_eq_some_iff, reduceCtorEq] at e
    case str y =>
      cases p <;> simp only [doCmp, reduceCtorEq] at e
      exact absurd ⟨_, _, rfl, rfl⟩ hx
    case lst xs => exact .inl (rd_in (neg := false) hh hp (.inl rfl) hq e (by simpa using post))
    case tup xs => exact .inl (rd_in (neg := false) hh hp (.inr rfl) hq e (by simpa using post))
    case dk kvs =>
      obtain ⟨k, e1, e2⟩ := e
      obtain ⟨a, ea, d⟩ := dget_k hq hp e1
      rcases d with ⟨l, d⟩ | ⟨z, u, l, d, _⟩
      · refine .inr (.inl ⟨a, none, ea, d, ?_⟩)
        rw [look_isSome, l] at e2
        subst e2
        exact post.tree hh (by simp only [RP]; rfl)
      · refine .inr (.inl ⟨a, some u, ea, d, ?_⟩)
        rw [look_isSome, l] at e2
        subst e2
        exact post.tree hh (by simp only [RP]; rfl)
    case dt kvs =>
      obtain ⟨k, e1, e2⟩ := e
      obtain ⟨a, ea, d⟩ := dget_t hh.sub hq hp e1
      rcases d with ⟨l, d⟩ | ⟨z, u, l, d, _⟩
      · refine .inr (.inl ⟨a, none, ea, d, ?_⟩)
        rw [look_isSome, l] at e2
        subst e2
        exact post.tree hh (by simp only [RP]; rfl)
      · refine .inr (.inl ⟨a, some u, ea, d, ?_⟩)
        rw [look_isSome, l] at e2
        subst e2
        exact post.tree hh (by simp only [RP]; rfl)
  case nin =>
    by_cases hx : ∃ x y, p = .str x ∧ q = .str y
    · obtain ⟨x, y, rfl, rfl⟩ := hx
      simp only [doCmp, Option.map_eq_some_iff] at e
      obtain ⟨d, e1, e2⟩ := e
      exact .inr (.inr (rd_sgn false hh hp hq e1 (by rw [show (d == false) = !d by cases d <;> rfl, e2]; exact post)))
    cases q <;> simp only [doCmp, Option.map_eq_some_iff, reduceCtorEq] at e
    case str y =>
      cases p <;> simp only [doCmp, reduceCtorEq] at e
      exact absurd ⟨_, _, rfl, rfl⟩ hx
    case lst xs =>
      obtain ⟨d, e1, e2⟩ := e
      exact .inl (rd_in (neg := true) hh hp (.inl rfl) hq e1 (by simp only [if_true]; rw [e2]; exact post))
    case tup xs =>
      obtain ⟨d, e1, e2⟩ := e
      exact .inl (rd_in (neg := true) hh hp (.inr rfl) hq e1 (by simp only [if_true]; rw [e2]; exact post))
    case dk kvs =>
      obtain ⟨k, e1, e2⟩ := e
      obtain ⟨a, ea, d⟩ := dget_k hq hp e1
      rcases d with ⟨l, d⟩ | ⟨z, u, l, d, _⟩
      · refine .inr (.inl ⟨a, none, ea, d, ?_⟩)
        rw [look_isSome, l] at e2
        subst e2
        exact post.tree hh (by simp only [RP]; rfl)
      · refine .inr (.inl ⟨a, some u, ea, d, ?_⟩)
        rw [look_isSome, l] at e2
        subst e2
        exact post.tree hh (by simp only [RP]; rfl)
    case dt kvs =>
      obtain ⟨k, e1, e2⟩ := e
      obtain ⟨a, ea, d⟩ := dget_t hh.sub hq hp e1
      rcases d with ⟨l, d⟩ | ⟨z, u, l, d, _⟩
      · refine .inr (.inl ⟨a, none, ea, d, ?_⟩)
        rw [look_isSome, l] at e2
        subst e2
        exact post.tree hh (by simp only [RP]; rfl)
      · refine .inr (.inl ⟨a, some u, ea, d, ?_⟩)
        rw [look_isSome, l] at e2
        subst e2
        exact post.tree hh (by simp only [RP]; rfl)
theorem rd_cmp (op : CO) : RdV2 M K W (rCmp K op) (cmp op) := by
  intro σ H Q F ρ st x y v w res hh rx ry e p
  unfold cmp at e
  cases ex : peek st x with
  | none => simp [ex] at e
  | some a =>
    cases ey : peek st y with
    | none => simp [ex, ey] at e
    | some b =>
      simp only [ex, ey, Option.map_eq_some_iff] at e
      obtain ⟨c, e1, e2⟩ := e
      subst e2
      exact rd_cmpP hh (peek_ok hh rx ex) (peek_ok hh ry ey) e1 p

/-! ### subscripts -/
theorem atI_eq {α : Type} (xs : List α) (i : Int) : L2.atI xs i = atI xs i := by
  unfold L2.atI atI
  show (L2.ixN xs.length i).bind _ = match Z.ixN xs.length i with | some j => xs[j]? | none => none
  have e : L2.ixN xs.length i = Z.ixN xs.length i := rfl
  rw [e]
  cases Z.ixN xs.length i <;> rfl
theorem RPs.at_ {xs : List PV} {vs : List V} (h : RPs K F xs vs) {i : Int} {x : PV} (e : atI xs i = some x) : ∃ v, L2.atI vs i = some v ∧ RP K F x v := by
  rw [atI_eq]
  unfold atI at e ⊢
  rw [← h.length]
  cases q : ixN xs.length i with
  | none => simp [q] at e
  | some j =>
    simp only [q] at e ⊢
    exact h.get e
theorem RLs.at_ {xs : List LV} {vs : List V} (h : RLs K F ρ xs vs) {i : Int} {x : LV} (e : atI xs i = some x) : ∃ v, L2.atI vs i = some v ∧ RL K F ρ x v := by
  rw [atI_eq]
  unfold atI at e ⊢
  rw [← h.length]
  cases q : ixN xs.length i with
  | none => simp [q] at e
  | some j =>
    simp only [q] at e ⊢
    exact h.get e
theorem atI_mem {α : Type} {xs : List α} {i : Int} {x : α} (e : atI xs i = some x) : x ∈ xs := by
  unfold atI at e
  cases q : ixN xs.length i with
  | none => simp [q] at e
  | some j =>
    simp only [q] at e
    exact List.mem_of_getElem? e
theorem rd_idxP {p i z : PV} {v w : V} {Q : VK} (hh : HR' M K F ρ H st) (hp : PK K F H p v) (hi : PK K F H i w) (e : doIdx p i = some z) (post : PostE M K W σ F ρ H Q (.ok (.pv z) st)) : rIxZ K v w H Q := by
  cases p <;> simp only [doIdx, reduceCtorEq] at e
  case str s =>
    cases i <;> simp only [reduceCtorEq] at e
    split at e
    · rename_i hl
      simp only [Option.map_eq_some_iff] at e
      obtain ⟨c, e1, e2⟩ := e
      subst e2
      refine .inr (.inr (.inl ⟨mkS s, _, c, hp.str.1, hi.int, by rw [mkS_len, line_eq]; exact hl, by rw [mkS_cps, atI_eq]; exact e1, post.tree hh ?_⟩))
      simp only [RP]
      refine ⟨rfl, ?_⟩
      have := hp.str.2
      simp only [okS, List.all_eq_true] at this
      simpa [okS] using this c (atI_mem e1)
    · cases e
  case tup xs =>
    cases i <;> simp only [reduceCtorEq] at e
    simp only [PK, RP] at hp
    obtain ⟨a, vs, e1, e2, e3⟩ := hp
    obtain ⟨u, h1, h2⟩ := e3.at_ e
    exact .inr (.inl ⟨a, vs, _, u, e1, hi.int, .inl (.inl (hh.sub _ _ e2)), h1, post.tree hh h2⟩)
  case lst xs =>
    cases i <;> simp only [reduceCtorEq] at e
    obtain ⟨a, vs, e1, e2, e3⟩ := hp
    obtain ⟨u, h1, h2⟩ := e3.at_ e
    exact .inl ⟨a, vs, _, u, e1, hi.int, .inl (.inl e2), h1, post.tree hh h2⟩
  case dk kvs =>
    cases q : keyK i with
    | none => simp [q] at e
    | some k =>
      simp only [q] at e
      obtain ⟨a, ea, d⟩ := dget_k hp hi q
      rcases d with ⟨l, d⟩ | ⟨z', u, l, d, rz⟩
      · rw [l] at e; cases e
      · rw [l] at e; cases e
        exact .inr (.inr (.inr ⟨a, u, ea, d, post.tree hh rz⟩))
  case dt kvs =>
    cases q : keyT i with
    | none => simp [q] at e
    | some k =>
      simp only [q] at e
      obtain ⟨a, ea, d⟩ := dget_t hh.sub hp hi q
      rcases d with ⟨l, d⟩ | ⟨z', u, l, d, rz⟩
      · rw [l] at e; cases e
      · rw [l] at e; cases e
        exact .inr (.inr (.inr ⟨a, u, ea, d, post.tree hh rz⟩))
theorem rd_getI : RdV2 M K W (rIxZ K) getI := by
  intro σ H Q F ρ st x y v w res hh rx ry e p
  cases x with
  | pv a =>
    cases y with
    | pv b =>
      simp only [getI] at e
      cases q : doIdx a b with
      | none => simp [q, okP] at e
      | some z =>
        simp only [q, okP, Option.some.injEq] at e
        subst e
        simp only [RL] at rx ry
        exact rd_idxP hh (PK.of hh.sub rx) (PK.of hh.sub ry) q p
    | ref _ => simp [getI] at e
    | tup _ => simp [getI] at e
    | exn _ => simp [getI] at e
  | ref n =>
    simp only [RL] at rx
    obtain ⟨a, ev, ea⟩ := rx
    obtain ⟨c, ec, hc⟩ := hh.at ea
    simp only [getI, ec] at e
    cases c with
    | lst live xs =>
      cases y with
      | pv b =>
        cases b <;> simp only [reduceCtorEq] at e
        rename_i i
        cases q : atI xs i with
        | none => simp [q] at e
        | some z =>
          simp only [q, Option.some.injEq] at e
          subst e
          obtain ⟨vs, h1, h2, _⟩ := hc
          obtain ⟨u, l1, l2⟩ := h2.at_ q
          simp only [RL, RP] at ry
          exact .inl ⟨a, vs, i, u, ev, ry, .inl (.inl h1), l1, p.here hh l2⟩
      | ref _ => simp at e
      | tup _ => simp at e
      | exn _ => simp at e
    | dk live kvs =>
      cases y with
      | pv b =>
        cases q : keyK b with
        | none => simp [q] at e
        | some k =>
          simp only [q] at e
          obtain ⟨ks, h1, h2, _⟩ := hc
          simp only [RL] at ry
          obtain ⟨hk, _⟩ := kV_of (H := F) q (PK.of (Sub.refl F) ry)
          subst hk
          have d := DGet.k (k := kyS k) h1
          rcases valV_kL k h2 with ⟨l1, l2⟩ | ⟨z, u, l1, l2, l3⟩
          · rw [l1] at e; cases e
          · rw [l1] at e; cases e
            rw [l2] at d
            exact .inr (.inr (.inr ⟨a, u, ev, d, p.here hh l3⟩))
      | ref _ => simp at e
      | tup _ => simp at e
      | exn _ => simp at e
    | dt live kvs =>
      cases y with
      | pv b =>
        cases q : keyT b with
        | none => simp [q] at e
        | some k =>
          simp only [q] at e
          obtain ⟨ks, h1, h2, _⟩ := hc
          simp only [RL] at ry
          obtain ⟨b', hk, hk2⟩ := kT_of (H := H) hh.sub q (PK.of hh.sub ry)
          subst hk
          have d := DGet.t h1 hk2
          rcases valV_tL k h2 with ⟨l1, l2⟩ | ⟨z, u, l1, l2, l3⟩
          · rw [l1] at e; cases e
          · rw [l1] at e; cases e
            rw [l2] at d
            exact .inr (.inr (.inr ⟨a, u, ev, d, p.here hh l3⟩))
      | ref _ => simp at e
      | tup _ => simp at e
      | exn _ => simp at e
    | ins C fs => simp at e
  | tup xs =>
    cases y with
    | pv b =>
      cases b <;> simp only [getI, reduceCtorEq] at e
      rename_i i
      cases q : atI xs i with
      | none => simp [q] at e
      | some z =>
        simp only [q, Option.some.injEq] at e
        subst e
        simp only [RL] at rx
        obtain ⟨a, vs, e1, e2, e3⟩ := rx
        obtain ⟨u, l1, l2⟩ := e3.at_ q
        simp only [RL, RP] at ry
        exact .inr (.inl ⟨a, vs, i, u, e1, ry, .inl (.inl (hh.sub _ _ e2)), l1, p.here hh l2⟩)
    | ref _ => simp [getI] at e
    | tup _ => simp [getI] at e
    | exn _ => simp [getI] at e
  | exn _ => simp only [RL] at rx

/-! ### truth -/
theorem rd_tru {p : PV} {b : Bool} {v : V} (s : Sub F H) (h : PK K F H p v) (e : tru p = some b) : TruV K v H b := by
  cases p <;> simp only [tru, Option.some.injEq, reduceCtorEq] at e
  case non => subst e; simp only [PK, RP] at h; subst h; rfl
  case bl c => subst e; simp only [PK, RP] at h; subst h; rfl
  case int i => subst e; rw [h.int]; rfl
  case str x =>
    split at e
    · rename_i hl
      simp only [Option.some.injEq] at e
      subst e
      rw [h.str.1]
      refine ⟨by rw [mkS_len, line_eq]; exact hl, ?_⟩
      rw [mkS_len]
      cases x <;> simp
      omega
    · cases e
  case lst xs =>
    subst e
    obtain ⟨a, vs, e1, e2, e3⟩ := h
    subst e1
    refine .inl ⟨vs, .inl (.inl e2), ?_⟩
    have := e3.length
    cases xs <;> cases vs <;> simp at this <;> rfl
  case tup xs =>
    subst e
    simp only [PK, RP] at h
    obtain ⟨a, vs, e1, e2, e3⟩ := h
    subst e1
    refine .inr (.inl ⟨vs, .inl (.inl (s _ _ e2)), ?_⟩)
    have := e3.length
    cases xs <;> cases vs <;> simp at this <;> rfl
  case dk kvs =>
    subst e
    obtain ⟨a, ks, e1, e2, e3⟩ := h
    subst e1
    refine .inr (.inr ⟨ks, e2, ?_⟩)
    cases kvs with
    | nil =>
      simp only [RPk] at e3
      subst e3; rfl
    | cons kv kvs =>
      obtain ⟨k, p⟩ := kv
      simp only [RPk] at e3
      obtain ⟨v, r, e4, _⟩ := e3
      subst e4; rfl
theorem rd_lenL {x : LV} {n : Nat} {v : V} (hh : HR' M K F ρ H st) (r : RL K F ρ x v) (e : lenL x st = some n) : ∃ a ws, v = .ref a ∧ ws.length = n ∧ (H a = some (.lst ws) ∨ H a = some (.tup ws)) := by
  unfold lenL at e
  split at e
  · rename_i m
    split at e
    · rename_i live xs hx
      simp only [Option.some.injEq] at e
      subst e
      simp only [RL] at r
      obtain ⟨a, ev, ea⟩ := r
      obtain ⟨c, ec, hc⟩ := hh.at ea
      rw [ec] at hx
      cases hx
      obtain ⟨ws, h1, h2, _⟩ := hc
      exact ⟨a, ws, ev, h2.length.symm, .inl h1⟩
    · cases e
  · rename_i xs
    simp only [Option.some.injEq] at e
    subst e
    simp only [RL] at r
    obtain ⟨a, ws, e1, e2, e3⟩ := r
    exact ⟨a, ws, e1, e3.length.symm, .inr (hh.sub _ _ e2)⟩
  · cases e
theorem rd_truL {x : LV} {b : Bool} {v : V} (hh : HR' M K F ρ H st) (r : RL K F ρ x v) (e : truL x st = some b) : TruV K v H b := by
  unfold truL at e
  split at e
  · rename_i n hn
    simp only [Option.some.injEq] at e
    subst e
    obtain ⟨a, ws, ev, hl, ho⟩ := rd_lenL hh r hn
    subst ev
    have hb : (n != 0) = !ws.isEmpty := by
      rw [← hl]
      cases ws <;> rfl
    rcases ho with ho | ho
    · exact .inl ⟨ws, .inl (.inl ho), hb⟩
    · exact .inr (.inl ⟨ws, .inl (.inl ho), hb⟩)
  · cases q : peek st x with
    | none => simp [q] at e
    | some p =>
      simp only [q] at e
      exact rd_tru hh.sub (peek_ok hh r q) e
end
end Z
end

section
/-! ZI: freezing, the store behind a call, what a def promises, builtins. -/
namespace Z
open PySem PySem.Spec PyProof.Rows L2
section
variable {M : Nm} {K : PySem.W.Frag} {W : WX} {σ : L2.St} {F F' H H' : Hp} {ρ ρ' : List Addr} {st : Store}
theorem frz_ok {x : LV} {p : PV} {st' : Store} {v : V} (h : HR' M K F ρ H st) (r : RL K F ρ x v) (e : frz x st = some (p, st')) :
    ∃ F', G F ρ H F' ρ H ∧ HR' M K F' ρ H st' ∧ RP K F' p v := by
  cases x with
  | pv q =>
    simp only [frz, Option.some.injEq, Prod.mk.injEq] at e
    obtain ⟨e1, e2⟩ := e
    subst e1 e2
    simp only [RL] at r
    exact ⟨F, G.refl F ρ H, h, r⟩
  | tup xs => simp [frz] at e
  | exn _ => simp [frz] at e
  | ref n =>
    simp only [RL] at r
    obtain ⟨a, ev, ea⟩ := r
    obtain ⟨c, ec, hc⟩ := h.at ea
    simp only [frz, ec] at e
    have base : ∀ (live : Bool) (o : HO), (live = true → F a = none) → (live = false → F a = some o) → F a = none ∨ F a = some o := fun live o h1 h2 => by
      cases live with
      | true => exact .inl (h1 rfl)
      | false => exact .inr (h2 rfl)
    have sb : ∀ o, F a = none ∨ F a = some o → Sub F (upd F a o) := fun o hF b u e => by
      by_cases hb : b = a
      · subst hb
        rcases hF with z | z
        · rw [z] at e; cases e
        · rw [z] at e; rw [upd_same]; exact e
      · rw [upd_ne hb]; exact e
    cases c with
    | lst live xs =>
      obtain ⟨vs, h1, h2, h3, h4⟩ := hc
      cases q : unpv xs with
      | none => simp [q] at e
      | some ps =>
        simp only [q, Option.some.injEq, Prod.mk.injEq] at e
        obtain ⟨e1, e2⟩ := e
        subst e1 e2
        have hF := base live _ h3 h4
        have hs := sb _ hF
        obtain ⟨g, hr⟩ := h.froze ea h1 (c := .lst false xs) hF ⟨vs, h1, RLs.mono hs (Pre.refl ρ) _ _ h2, ⟨fun z => Bool.noConfusion z, fun _ => upd_same⟩⟩
        refine ⟨_, g, hr, ?_⟩
        simp only [RP]
        rw [unpv_eq q] at h2
        exact ⟨a, vs, ev, upd_same, RPs.mono hs _ _ (RLs_pv.mp h2)⟩
    | dk live xs =>
      obtain ⟨vs, h1, h2, h3, h4⟩ := hc
      cases q : unpvK xs with
      | none => simp [q] at e
      | some ps =>
        simp only [q, Option.some.injEq, Prod.mk.injEq] at e
        obtain ⟨e1, e2⟩ := e
        subst e1 e2
        have hF := base live _ h3 h4
        have hs := sb _ hF
        obtain ⟨g, hr⟩ := h.froze ea h1 (c := .dk false xs) hF ⟨vs, h1, RLk.mono hs (Pre.refl ρ) h2, ⟨fun z => Bool.noConfusion z, fun _ => upd_same⟩⟩
        refine ⟨_, g, hr, ?_⟩
        simp only [RP]
        rw [unpvK_eq q] at h2
        exact ⟨a, vs, ev, upd_same, RPk.mono hs _ _ (RLk_pv.mp h2)⟩
    | dt live xs =>
      obtain ⟨vs, h1, h2, h3, h4⟩ := hc
      cases q : unpvK xs with
      | none => simp [q] at e
      | some ps =>
        simp only [q, Option.some.injEq, Prod.mk.injEq] at e
        obtain ⟨e1, e2⟩ := e
        subst e1 e2
        have hF := base live _ h3 h4
        have hs := sb _ hF
        obtain ⟨g, hr⟩ := h.froze ea h1 (c := .dt false xs) hF ⟨vs, h1, RLt.mono hs (Pre.refl ρ) h2, ⟨fun z => Bool.noConfusion z, fun _ => upd_same⟩⟩
        refine ⟨_, g, hr, ?_⟩
        simp only [RP]
        rw [unpvK_eq q] at h2
        exact ⟨a, vs, ev, upd_same, RPt.mono hs _ _ (RLt_pv.mp h2)⟩
    | ins C fs => simp at e

/-! ### a call that knows none of our cells -/
theorem HR.after (h : HR' M K F ρ H st) (sub : Sub F F') (keep : ∀ b o, H b = some o → H' b = some o) (new : ∀ b o, F' b = some o → F b = some o ∨ H b = none) (s : Sub F' H') :
    G F ρ H F' ρ H' ∧ HR' M K F' ρ H' st := by
  refine ⟨⟨sub, Pre.refl ρ, fun b o e _ => keep b o e, fun b o e => (new b o e).elim .inl fun z => .inr (.inl z), fun b hb => .inl hb, fun b hb => ?_⟩, ⟨s, h.len, h.nd, fun n a c e1 e2 => ?_⟩⟩
  · cases q : H b with
    | none => exact absurd q hb
    | some o => rw [keep b o q]; simp
  · have hc := h.cell n a c e1 e2
    obtain ⟨u, hu⟩ := hc.there
    refine hc.mono sub (Pre.refl ρ) (fun o e => keep a o e) fun e => ?_
    cases q : F' a with
    | none => rfl
    | some o =>
      rcases new a o q with z | z
      · rw [e] at z; cases z
      · rw [hu] at z; cases z

/-! ### cells go -/
mutual
theorem RL.below {n : Nat} : ∀ (x : LV) (v : V), below n x = true → RL K F ρ x v → RL K F (ρ.take n) x v
  | .pv p, v, _, h => by simpa only [RL] using h
  | .ref m, v, b, h => by
    simp only [RL] at h ⊢
    obtain ⟨a, e1, e2⟩ := h
    refine ⟨a, e1, ?_⟩
    simp only [Z.below, decide_eq_true_eq] at b
    rw [List.getElem?_take, if_pos b]
    exact e2
  | .tup xs, v, b, h => by
    simp only [RL] at h ⊢
    obtain ⟨a, vs, e1, e2, e3⟩ := h
    exact ⟨a, vs, e1, e2, RLs.below xs vs (by simpa [Z.below] using b) e3⟩
  | .exn _, v, b, h => by simp only [RL] at h
theorem RLs.below {n : Nat} : ∀ (xs : List LV) (vs : List V), belows n xs = true → RLs K F ρ xs vs → RLs K F (ρ.take n) xs vs
  | [], vs, _, h => by simpa only [RLs] using h
  | x :: xs, vs, b, h => by
    simp only [RLs] at h ⊢
    simp only [belows, Bool.and_eq_true] at b
    obtain ⟨v, r, e1, e2, e3⟩ := h
    exact ⟨v, r, e1, RL.below x v b.1 e2, RLs.below xs r b.2 e3⟩
end
theorem RLk.below {n : Nat} : ∀ {xs : List (Ky × LV)} {vs : List (Key × V)}, belows n (xs.map (·.2)) = true → RLk K F ρ xs vs → RLk K F (ρ.take n) xs vs
  | [], vs, _, h => by simpa only [RLk] using h
  | (k, x) :: xs, vs, b, h => by
    simp only [RLk] at h ⊢
    simp only [List.map_cons, belows, Bool.and_eq_true] at b
    obtain ⟨v, r, e1, e2, e3, e4⟩ := h
    exact ⟨v, r, e1, e2, RL.below x v b.1 e3, RLk.below b.2 e4⟩
theorem RLt.below {n : Nat} : ∀ {xs : List (List Ky × LV)} {vs : List (List Key × V)}, belows n (xs.map (·.2)) = true → RLt K F ρ xs vs → RLt K F (ρ.take n) xs vs
  | [], vs, _, h => by simpa only [RLt] using h
  | (k, x) :: xs, vs, b, h => by
    simp only [RLt] at h ⊢
    simp only [List.map_cons, belows, Bool.and_eq_true] at b
    obtain ⟨v, r, e1, e2, e3, e4⟩ := h
    exact ⟨v, r, e1, e2, RL.below x v b.1 e3, RLt.below b.2 e4⟩
theorem CR.below {n : Nat} {a : Addr} {c : Cell} (b : c.below n = true) (h : CR K F ρ M.cad M.fnm H a c) : CR K F (ρ.take n) M.cad M.fnm H a c := by
  cases c with
  | lst live xs => obtain ⟨vs, h1, h2, h3⟩ := h; exact ⟨vs, h1, RLs.below _ _ b h2, h3⟩
  | dk live xs => obtain ⟨vs, h1, h2, h3⟩ := h; exact ⟨vs, h1, RLk.below b h2, h3⟩
  | dt live xs => obtain ⟨vs, h1, h2, h3⟩ := h; exact ⟨vs, h1, RLt.below b h2, h3⟩
  | ins C fs => obtain ⟨dx, vs, h1, h2, h3⟩ := h; exact ⟨dx, vs, h1, RLs.below _ _ b h2, h3⟩
theorem trunc_ok {n : Nat} {ok : Bool} (hn : ρ.length = n) (g : G F ρ H F' ρ' H') (h : HR' M K F' ρ' H' st) :
    ∃ ρ2, G F ρ H F' ρ2 H' ∧ HR' M K F' ρ2 H' (trunc n ok st) ∧ (∀ x v, (ok = true → below n x = true) → RL K F' ρ' x v → RL K F' ρ2 x v) := by
  unfold trunc
  split
  · rename_i hc
    simp only [Bool.and_eq_true, List.all_eq_true] at hc
    refine ⟨ρ'.take n, ⟨g.sub, fun i a e => ?_, g.keep, g.new, fun b hb => g.newρ b (List.mem_of_mem_take hb), g.hold⟩, ⟨h.sub, by rw [List.length_take, List.length_take, h.len], h.nd.sublist (List.take_sublist _ _), fun i a c e1 e2 => ?_⟩,
      fun x v hb r => RL.below x v (hb hc.1) r⟩
    · have hi : i < n := by
        rw [← hn]
        exact (List.getElem?_eq_some_iff.mp e).1
      rw [List.getElem?_take, if_pos hi]
      exact g.pre i a e
    · have e1' : ρ'[i]? = some a := by
        rw [List.getElem?_take] at e1
        split at e1
        · exact e1
        · cases e1
      have e2' : st[i]? = some c := by
        rw [List.getElem?_take] at e2
        split at e2
        · exact e2
        · cases e2
      exact (h.cell i a c e1' e2').below (hc.2 c (List.mem_of_getElem? e2))
  · exact ⟨ρ', g, h, fun x v _ r => r⟩

/-! ### what a def promises -/
def spOf (M : Nm) (K : PySem.W.Frag) (cal : List LV → Store → Option ER) (n : Nat) : Sp := fun vs H Q E =>
  vs.length = n ∧ ∃ F ρ st args r, HR' M K F ρ H st ∧ RLs K F ρ args vs ∧ cal args st = some r ∧ PostE M K (fun cls d _ H => E cls d H) [] F ρ H Q r
theorem PostE.ex_tr {Q : VK} {e : Ex} {st st2 : Store} (p : PostE M K W σ F ρ H Q (.ex e st)) (h : ∀ F' ρ' H', G F ρ H F' ρ' H' → HR' M K F' ρ' H' st2 → ∃ ρ2, G F ρ H F' ρ2 H' ∧ HR' M K F' ρ2 H' st) : PostE M K W σ F ρ H Q (.ex e st2) := by
  intro F' ρ' H' cls d g h' x
  obtain ⟨ρ2, g2, h2⟩ := h F' ρ' H' g h'
  exact p F' ρ2 H' cls d g2 h2 x
theorem rd_call {S : Sem} {f n : Nat} {args : List LV} {vs : List V} {Q : VK} {res : ER} (hh : HR' M K F ρ H st) (ra : RLs K F ρ args vs) (hl : vs.length = n) (e : S.call f args st = some res) (post : PostE M K W σ F ρ H Q res) :
    spOf M K (S.cal f) n vs H Q (fun cls d H => W cls d σ H) := by
  refine ⟨hl, ?_⟩
  have shared : ∀ r0, S.cal f args st = some r0 → (match r0 with
      | .ok v st1 => res = .ok v (trunc st.length (below st.length v) st1)
      | .ex e st1 => res = .ex e (trunc st.length true st1)) → ∃ F ρ st args r, HR' M K F ρ H st ∧ RLs K F ρ args vs ∧ S.cal f args st = some r ∧ PostE M K (fun cls d _ H => W cls d σ H) [] F ρ H Q r := by
    intro r0 e0 hres
    refine ⟨F, ρ, st, args, r0, hh, ra, e0, ?_⟩
    cases r0 with
    | ok x st1 =>
      subst hres
      intro F' ρ' H' v g h r
      obtain ⟨ρ2, g2, h2, k2⟩ := trunc_ok (ok := below st.length x) hh.len g h
      exact post F' ρ2 H' v g2 h2 (k2 x v (fun z => z) r)
    | ex x st1 =>
      subst hres
      intro F' ρ' H' cls d g h r
      obtain ⟨ρ2, g2, h2, _⟩ := trunc_ok (ok := true) hh.len g h
      exact post F' ρ2 H' cls d g2 h2 r
  have isPure : ∀ ps, unpv args = some ps → (∃ r0, S.cal f args [] = some r0 ∧ match r0 with
      | .ok v st1 => ∃ p, frz v st1 = some p ∧ res = .ok (.pv p.1) st
      | .ex e _ => res = .ex e st) → ∃ F ρ st args r, HR' M K F ρ H st ∧ RLs K F ρ args vs ∧ S.cal f args st = some r ∧ PostE M K (fun cls d _ H => W cls d σ H) [] F ρ H Q r := by
    rintro ps eu ⟨r0, e0, hres⟩
    have ea := unpv_eq eu
    have ra0 : RLs K F [] args vs := by
      rw [ea] at ra ⊢
      exact RLs_pv.mpr (RLs_pv.mp ra)
    refine ⟨F, [], [], args, r0, ⟨hh.sub, rfl, List.nodup_nil, fun n a c e _ => by simp at e⟩, ra0, e0, ?_⟩
    cases r0 with
    | ok x st1 =>
      obtain ⟨p, ef, er⟩ := hres
      subst er
      intro F' ρ' H' v g h r
      obtain ⟨F2, g2, h2, r2⟩ := frz_ok h r (p := p.1) (st' := p.2) ef
      have g3 := g.trans g2
      obtain ⟨g4, h4⟩ := hh.after (F' := F2) (H' := H') g3.sub (fun b o e => g3.keep b o e (by simp)) (fun b o e => by
        rcases g3.new b o e with z | z | z
        · exact .inl z
        · exact .inr z
        · simp at z) h2.sub
      exact post F2 ρ H' v g4 h4 (by simp only [RL]; exact r2)
    | ex x st1 =>
      subst hres
      intro F' ρ' H' cls d g h r
      obtain ⟨g4, h4⟩ := hh.after (F' := F') (H' := H') g.sub (fun b o e => g.keep b o e (by simp)) (fun b o e => by
        rcases g.new b o e with z | z | z
        · exact .inl z
        · exact .inr z
        · simp at z) h.sub
      exact post F' ρ H' cls d g4 h4 r
  unfold Sem.call at e
  split at e
  · rename_i ps hs hu
    refine isPure ps hu ?_
    cases q : S.cal f args [] with
    | none => simp [q] at e
    | some r0 =>
      refine ⟨r0, rfl, ?_⟩
      cases r0 with
      | ok v st1 =>
        simp only [q, Option.map_eq_some_iff] at e
        obtain ⟨p, e1, e2⟩ := e
        exact ⟨p, e1, e2.symm⟩
      | ex x st1 =>
        simp only [q, Option.some.injEq] at e
        exact e.symm
  · cases q : S.cal f args st with
    | none => simp [q] at e
    | some r0 =>
      refine shared r0 q ?_
      cases r0 with
      | ok v st1 =>
        simp only [q, Option.some.injEq] at e
        exact e.symm
      | ex x st1 =>
        simp only [q, Option.some.injEq] at e
        exact e.symm
end

/-! ### builtins -/
section
variable {X : Cx}
def biName : BI → Str
  | .len => "len" | .abs => "abs" | .int => "int" | .list => "list" | .sum => "sum" | .all => "all" | .any => "any" | .repr => "repr" | .str => "str" | .max => "max" | .min => "min" | .sorted => "sorted" | .tuple => "tuple"
def biV : BI → Value
  | .len => .builtin "len" | .abs => .builtin "abs" | .int => .type "int" | .list => .type "list" | .sum => .builtin "sum" | .all => .builtin "all" | .any => .builtin "any" | .repr => .builtin "repr" | .str => .type "str" | .max => .builtin "max" | .min => .builtin "min" | .sorted => .builtin "sorted" | .tuple => .type "tuple"
theorem bi_boot : ∀ b : BI, bootBuiltins (biName b) = some (biV b)
  | .len => PySem.boot_len
  | .abs => by decide +kernel
  | .int => by decide +kernel
  | .list => by decide +kernel
  | .sum => by decide +kernel
  | .all => by decide +kernel
  | .any => by decide +kernel
  | .repr => by decide +kernel
  | .str => by decide +kernel
  | .max => by decide +kernel
  | .min => by decide +kernel
  | .sorted => by decide +kernel
  | .tuple => by decide +kernel
def rReprR (K : PySem.W.Frag) : List V → Hp → VK → Prop := fun xs H Q => ∃ a d, xs = [.ref a] ∧ Dp K H (.ref a) d ∧ d.showable = true ∧ d.hasDict = false ∧ d.depth ≤ maxDep ∧ d.shown.length ≤ sizeLine ∧ Q (.str d.shown) H
theorem call_reprR (hu : room2 X) (hg : X.A.guards = some []) : CallR X (.builtin "repr") (rReprR X.K) := by
  intro pins s σ H xs us Q I rs h
  obtain ⟨a, d, e, hd, h1, h2, h3, h4, q⟩ := h
  subst e
  obtain ⟨u, eu, ru⟩ := Vals.one rs
  subst eu
  obtain rfl : u = Value.ref a := ru
  obtain ⟨as, rd⟩ := Dp.reads I d (.ref a) (.ref a) hd rfl
  exact repr_of_reads' rd h1 (PyData.noDict_hsm h2) hg (by have h5 : X.A.units + 600 < cLine := hu; have h6 : maxDep = 500 := rfl; omega) (fun _ _ z => z) (fun h' u tk kp => ⟨.str d.shown, H, I.kept (h' := h') (t' := tk) kp, ⟨u, rfl⟩, q⟩) h4
def rReprV : List V → Hp → VK → Prop := fun xs H Q => (∃ x, xs = [.str x] ∧ (reprText x).length ≤ sizeLine ∧ Q (.str (reprText x)) H) ∨ (xs = [.non] ∧ Q (.str "None") H)
theorem call_reprV : CallR X (.builtin "repr") rReprV := by
  intro pins s σ H xs us Q I rs h
  rcases h with ⟨x, e, h4, q⟩ | ⟨e, q⟩
  · subst e
    obtain ⟨u, eu, ru⟩ := Vals.one rs
    subst eu
    obtain ⟨t, rfl⟩ : ∃ t, u = Value.str x t := ru
    exact call_repr_gives (typeIs_str s x t) F.slot_str_repr F.entry_str_repr (F.args_str_repr_1 _) (gives_str_repr x t) ⟨.str (reprText x), H, I.tok _, ⟨_, rfl⟩, q⟩ (hx := h4)
  · subst e
    obtain ⟨u, eu, ru⟩ := Vals.one rs
    subst eu
    obtain rfl : u = Value.none := ru
    exact call_repr_gives (typeIs_none s) F.slot_NoneType_repr F.entry_NoneType_repr (F.args_NoneType_repr_1 _) gives_none_repr ⟨.str "None", H, I.tok _, ⟨_, rfl⟩, q⟩ (hx := by decide)
end
end Z
/-! ### sorted, texts, any number of them -/
namespace SrtO
open PySem PyProof.Rows Srt
section
variable {prog : Program} {w : World} {A : Around} {E : Value → Shared → Prop} {s : Shared}
def sv : Value → PySem.Str
  | .str x _ => x
  | _ => ⟨#[]⟩
def ltSv (v u : Value) : Bool := decide ((sv v).cps.toList < (sv u).cps.toList)
theorem swo_str : Swo ltSv := by
  refine ⟨fun x y h => ?_, fun x y z h1 h2 => ?_⟩
  · have a := of_decide_eq_true (p := (sv x).cps.toList < (sv y).cps.toList) h
    exact decide_eq_false (p := (sv y).cps.toList < (sv x).cps.toList) fun b => List.lt_asymm a b
  · have a := of_decide_eq_false (p := (sv y).cps.toList < (sv x).cps.toList) h1
    have b := of_decide_eq_false (p := (sv z).cps.toList < (sv y).cps.toList) h2
    exact decide_eq_false (p := (sv z).cps.toList < (sv x).cps.toList) (List.not_lt.mpr (List.le_trans (List.not_lt.mp a) (List.not_lt.mp b)))
theorem strs_mem : ∀ {vs : List Value} {ns : List PySem.Str}, StrsAre vs ns → ∀ v ∈ vs, ∃ i t, v = Value.str i t
  | _, _, .nil, v, h => absurd h (by simp)
  | _, _, .cons n t r, v, h => by
    rcases List.mem_cons.mp h with e | h
    · exact ⟨n, t, e⟩
    · exact strs_mem r v h
theorem strs_sv : ∀ {vs : List Value}, (∀ v ∈ vs, ∃ i t, v = Value.str i t) → StrsAre vs (vs.map sv)
  | [], _ => .nil
  | v :: vs, h => by
    obtain ⟨i, t, e⟩ := h v List.mem_cons_self
    subst e
    exact .cons i t (strs_sv fun u hu => h u (List.mem_cons_of_mem _ hu))
theorem sv_strs : ∀ {vs : List Value} {ns : List PySem.Str}, StrsAre vs ns → vs.map sv = ns
  | _, _, .nil => rfl
  | _, _, .cons n t r => congrArg (n :: ·) (sv_strs r)
theorem str_cmp {vs : List Value} {ns : List PySem.Str} (hI : StrsAre vs ns) : Cmp prog w A s oneType' (fun p => p.1 ∈ vs) (lt2 ltSv) := by
  intro p q hm hm'
  obtain ⟨a, t, e⟩ := strs_mem hI _ hm
  obtain ⟨b, u, e'⟩ := strs_mem hI _ hm'
  show wpAny (model prog w) A (keyLt' oneType' p.1 q.1) (fun r s' => s' = s ∧ r = ltSv p.1 q.1) (fun _ _ => False) s
  rw [e, e', keyLt'_oneType]
  exact oneLt_str ⟨rfl, rfl⟩
theorem strs_sortable {a : Addr} {vs : List Value} {ns : List PySem.Str} (hI : StrsAre vs ns) (h2 : 2 ≤ vs.length) : SortableO prog w A s a vs ltSv := by
  intro h' _
  refine ⟨oneType', fun Q E hq => ?_, str_cmp hI⟩
  match vs, hI, h2 with
  | v1 :: v2 :: rest, hI, _ =>
    rw [keyKind_strs hI]
    exact wpAny_pure hq
  | [], _, h => exact absurd h (by decide)
  | [v], _, h => exact absurd h (by simp)
theorem strs_out {vs out : List Value} {ns : List PySem.Str} (hI : StrsAre vs ns) (hs : Srtd ltSv out) (hb : Stb ltSv out vs) : StrsAre out (out.map sv) ∧ (out.map sv).Perm ns ∧ (out.map sv).Pairwise (fun x y => x.cps.toList ≤ y.cps.toList) := by
  refine ⟨strs_sv fun v hv => strs_mem hI v (hb.perm.mem_iff.mp hv), ?_, ?_⟩
  · have q := hb.perm.map sv
    rw [sv_strs hI] at q
    exact q
  · exact List.pairwise_map.mpr (hs.imp fun {x y} h => List.not_lt.mp (of_decide_eq_false (p := (sv y).cps.toList < (sv x).cps.toList) h))
theorem risingS_of : ∀ (ss : List PySem.Str) (p : PySem.Str), (p :: ss).Pairwise (fun x y => x.cps.toList ≤ y.cps.toList) → risingS p ss = true
  | [], _, _ => rfl
  | s :: ss, p, h => by
    obtain ⟨h1, h2⟩ := List.pairwise_cons.mp h
    show (!PySem.Spec.ltCps s.cps.toList p.cps.toList && risingS s ss) = true
    rw [risingS_of ss s h2, PyProof.Rows.ltCps_eq, Bool.and_true, decide_eq_false (List.not_lt.mpr (h1 s (by simp)))]
    rfl
theorem sortedS_of : ∀ (ss : List PySem.Str), ss.Pairwise (fun x y => x.cps.toList ≤ y.cps.toList) → sortedS ss = true
  | [], _ => rfl
  | s :: ss, h => risingS_of ss s h
end
end SrtO
namespace Z
open PySem PySem.Spec PyProof.Rows L2
section
variable {X : Cx}
/-- sorted(xs), texts, any number of them -/
def rSortedSU (K : PySem.W.Frag) : List V → Hp → VK → Prop := fun vs H Q => ∃ (a : Addr) (xs : List Str), vs = [V.ref a] ∧ SqL K H a (xs.map V.str) ∧
  ∀ (ys : List Str) (p : Addr), ys.Perm xs → sortedS ys = true → H p = none → Q (.ref p) (upd H p (.lst (ys.map V.str)))
theorem cr_sortedSU : CallR X (.builtin "sorted") (rSortedSU X.K) := by
  intro pins s σ H vs us Q I r h
  obtain ⟨a, ns, rfl, hs, q⟩ := h
  obtain ⟨its, rv, hl, hz⟩ := I.list hs
  rw [Vals.ref1 r]
  have hi := rv.strs
  refine SrtO.sorted_ord SrtO.swo_str hl.isList (by rw [← rv.length]; exact hz) (fun h2 h₁ a' _ _ => SrtO.strs_sortable hi h2) fun out h1 h2 => ?_
  obtain ⟨k1, k2, k3⟩ := SrtO.strs_out hi h1 h2
  obtain ⟨ep, he'⟩ := PyProof.Rows.sortedAll_at s.heap its out.toArray
  have hlen : ((out.map SrtO.sv).map V.str).length ≤ sizeLine := by
    rw [List.length_map, k2.length_eq]
    rw [List.length_map] at hz
    exact hz
  exact ⟨.ref _, upd H (s.heap.objs.size + 1) (.lst ((out.map SrtO.sv).map V.str)), I.laid (t' := s.toks) (fun _ _ => PyProof.Rows.sortedAll_old) (Nat.le_succ _) ⟨hlen, out, ep, vals_of_strs k1, he'⟩, rfl, q _ _ k2 (SrtO.sortedS_of _ k3) (I.hok.fresh (Nat.le_succ _))⟩
def rRepr (K : PySem.W.Frag) : List V → Hp → VK → Prop := fun xs H Q => rReprR K xs H Q ∨ rReprV xs H Q
def rBI (K : PySem.W.Frag) : BI → List V → Hp → VK → Prop
  | .len => fun xs H Q => ∃ x n, xs = [x] ∧ LenV K x H n ∧ Q (.int n) H
  | .abs => fun xs H Q => ∃ i, xs = [.int i] ∧ Q (.int (if i < 0 then -i else i)) H
  | .int => fun xs H Q => ((∃ i, xs = [.int i] ∧ Q (.int i) H) ∨ ∃ k, xs = [.bl k] ∧ Q (.int (if k then 1 else 0)) H) ∨ ∃ a n, xs = [.str a] ∧ PySem.intText? a = some n ∧ a.length ≤ 640 ∧ Q (.int n) H
  | .list => fun xs H Q => ∃ p ys, xs = [.ref p] ∧ (SqL K H p ys ∨ SqT K H p ys) ∧ ∀ l, H l = none → Q (.ref l) (upd H l (.lst ys))
  | .sum => rSum K
  | .all => rAll K
  | .any => rAny K
  | .repr => rRepr K
  | .str => fun xs H Q => ∃ i : Int, xs = [.int i] ∧ i.natAbs.log2 < 1920 ∧ Q (.str (toString i)) H
  | .max => fun xs H Q => (∃ i j, xs = [.int i, .int j] ∧ Q (.int (if j > i then j else i)) H) ∨ rMax K xs H Q
  | .min => fun xs H Q => (∃ i j, xs = [.int i, .int j] ∧ Q (.int (if j < i then j else i)) H) ∨ rMin K xs H Q
  | .sorted => fun xs H Q => rSortedI K xs H Q ∨ rSortedSU K xs H Q
  | .tuple => fun xs H Q => ∃ p ys, xs = [.ref p] ∧ ((SqL K H p ys ∧ ∀ l, H l = none → Q (.ref l) (upd H l (.tup ys))) ∨ (SqT K H p ys ∧ Q (.ref p) H))
def needsCalm : BI → Bool
  | .sum => true
  | .all => true
  | .any => true
  | .max => true
  | .min => true
  | _ => false
/-- what wants that nothing is being shown -/
def needsShow : BI → Bool
  | .repr => true
  | _ => false
theorem CallR.or {f : Value} {r r' : List V → Hp → VK → Prop} (h : CallR X f r) (h' : CallR X f r') : CallR X f fun xs H Q => r xs H Q ∨ r' xs H Q := fun pins s σ H xs us Q I rs q => q.elim (h pins s σ H xs us Q I rs) (h' pins s σ H xs us Q I rs)
theorem call_repr (hu : room2 X) (hg : X.A.guards = some []) : CallR X (.builtin "repr") (rRepr X.K) := CallR.or (call_reprR hu hg) call_reprV
theorem call_bi (hu : room2 X) : ∀ b : BI, (needsCalm b = true → X.calm = true) → (needsShow b = true → X.A.guards = some []) → CallR X (biV b) (rBI X.K b)
  | .len, _, _ => call_len
  | .abs, _, _ => call_abs
  | .int, _, _ => CallR.or call_int1 call_int_str
  | .list, _, _ => call_list_of
  | .sum, hc, _ => cr_sum (hc rfl)
  | .all, hc, _ => cr_all (hc rfl)
  | .any, hc, _ => cr_any (hc rfl)
  | .repr, _, hg => call_repr hu (hg rfl)
  | .str, _, _ => call_str_int
  | .max, hc, _ => CallR.or (call_max2 (hc rfl)) (cr_max (hc rfl))
  | .min, hc, _ => CallR.or (call_min2 (hc rfl)) (cr_min (hc rfl))
  | .sorted, _, _ => CallR.or cr_sortedI cr_sortedSU
  | .tuple, _, _ => call_tuple_of
/-- a call of a builtin by its name, function or type -/
theorem pe_bi {b : BI} {p pos : Pos} {e : Expr} {es : List Expr} {t : TA} (hu : room2 X) (hc : needsCalm b = true → X.calm = true) (hgd : needsShow b = true → X.A.guards = some []) (hg : Gl X (biName b)) (hm : X.mg (biName b) = none) (ha : PA X (e :: es) t)
    (he : starEach (e :: es) X.env = (false, eval e X.env) :: starEach es X.env) (hpl : (backTo pos (starEach es X.env)).any (·.1) = false) : PE X (.Call (.Name (biName b) p) (e :: es) [] pos) (tCB (rBI X.K b) t) := by
  cases b with
  | len => exact pe_callB (call_bi hu .len hc hgd) hg hm (bi_boot .len) ha (by decide) (by decide) he hpl
  | abs => exact pe_callB (call_bi hu .abs hc hgd) hg hm (bi_boot .abs) ha (by decide) (by decide) he hpl
  | int => exact pe_callTy (call_bi hu .int hc hgd) hg hm (bi_boot .int) ha (by decide) (by decide) he hpl
  | list => exact pe_callTy (call_bi hu .list hc hgd) hg hm (bi_boot .list) ha (by decide) (by decide) he hpl
  | sum => exact pe_callB (call_bi hu .sum hc hgd) hg hm (bi_boot .sum) ha (by decide) (by decide) he hpl
  | all => exact pe_callB (call_bi hu .all hc hgd) hg hm (bi_boot .all) ha (by decide) (by decide) he hpl
  | repr => exact pe_callB (call_bi hu .repr hc hgd) hg hm (bi_boot .repr) ha (by decide) (by decide) he hpl
  | str => exact pe_callTy (call_bi hu .str hc hgd) hg hm (bi_boot .str) ha (by decide) (by decide) he hpl
  | tuple => exact pe_callTy (call_bi hu .tuple hc hgd) hg hm (bi_boot .tuple) ha (by decide) (by decide) he hpl
  | max => exact pe_callB (call_bi hu .max hc hgd) hg hm (bi_boot .max) ha (by decide) (by decide) he hpl
  | min => exact pe_callB (call_bi hu .min hc hgd) hg hm (bi_boot .min) ha (by decide) (by decide) he hpl
  | sorted => exact pe_callB (call_bi hu .sorted hc hgd) hg hm (bi_boot .sorted) ha (by decide) (by decide) he hpl
  | any => exact pe_callB (call_bi hu .any hc hgd) hg hm (bi_boot .any) ha (by decide) (by decide) he hpl
end
section
variable {M : Nm} {K : PySem.W.Frag} {W : WX} {σ : L2.St} {F F' H H' : Hp} {ρ ρ' : List Addr} {st : Store}
def PKs (K : PySem.W.Frag) (F H : Hp) : List PV → List V → Prop
  | [], vs => vs = []
  | x :: xs, vs => ∃ v r, vs = v :: r ∧ PK K F H x v ∧ PKs K F H xs r
theorem peeks_ok (hh : HR' M K F ρ H st) : ∀ {xs : List LV} {vs : List V} {ps : List PV}, RLs K F ρ xs vs → peeks st xs = some ps → PKs K F H ps vs
  | [], vs, ps, r, e => by
    simp only [peeks, Option.some.injEq] at e
    subst e
    simp only [RLs] at r
    exact r
  | x :: xs, vs, ps, r, e => by
    simp only [RLs] at r
    obtain ⟨v, s, e1, e2, e3⟩ := r
    subst e1
    unfold peeks at e
    cases q : peek st x with
    | none => simp [q] at e
    | some p =>
      simp only [q, Option.map_eq_some_iff] at e
      obtain ⟨ps', e4, e5⟩ := e
      subst e5
      exact ⟨v, s, rfl, peek_ok hh e2 q, peeks_ok hh e3 e4⟩
theorem ints_vals : ∀ {ps : List PV} {ns : List Int} {vs : List V}, intsOf ps = some ns → RPs K F ps vs → vs = ns.map V.int
  | [], ns, vs, e, h => by
    simp [intsOf] at e; subst e
    simp only [RPs] at h
    exact h
  | .int i :: ps, ns, vs, e, h => by
    simp only [intsOf, Option.map_eq_some_iff] at e
    obtain ⟨ms, e1, e2⟩ := e
    subst e2
    simp only [RPs, RP] at h
    obtain ⟨v, r, h1, h2, h3⟩ := h
    subst h1 h2
    rw [ints_vals e1 h3]; rfl
  | .non :: _, _, _, e, _ => by simp [intsOf] at e
  | .bl _ :: _, _, _, e, _ => by simp [intsOf] at e
  | .str _ :: _, _, _, e, _ => by simp [intsOf] at e
  | .tup _ :: _, _, _, e, _ => by simp [intsOf] at e
  | .lst _ :: _, _, _, e, _ => by simp [intsOf] at e
  | .dk _ :: _, _, _, e, _ => by simp [intsOf] at e
  | .dt _ :: _, _, _, e, _ => by simp [intsOf] at e
  | .scr _ :: _, _, _, e, _ => by simp [intsOf] at e
theorem bools_vals : ∀ {ps : List PV} {ns : List Bool} {vs : List V}, boolsOf ps = some ns → RPs K F ps vs → vs = ns.map V.bl
  | [], ns, vs, e, h => by
    simp [boolsOf] at e; subst e
    simp only [RPs] at h
    exact h
  | .bl i :: ps, ns, vs, e, h => by
    simp only [boolsOf, Option.map_eq_some_iff] at e
    obtain ⟨ms, e1, e2⟩ := e
    subst e2
    simp only [RPs, RP] at h
    obtain ⟨v, r, h1, h2, h3⟩ := h
    subst h1 h2
    rw [bools_vals e1 h3]; rfl
  | .non :: _, _, _, e, _ => by simp [boolsOf] at e
  | .int _ :: _, _, _, e, _ => by simp [boolsOf] at e
  | .str _ :: _, _, _, e, _ => by simp [boolsOf] at e
  | .tup _ :: _, _, _, e, _ => by simp [boolsOf] at e
  | .lst _ :: _, _, _, e, _ => by simp [boolsOf] at e
  | .dk _ :: _, _, _, e, _ => by simp [boolsOf] at e
  | .dt _ :: _, _, _, e, _ => by simp [boolsOf] at e
  | .scr _ :: _, _, _, e, _ => by simp [boolsOf] at e
theorem PKs.one {p : PV} {vs : List V} (h : PKs K F H [p] vs) : ∃ v, vs = [v] ∧ PK K F H p v := by
  obtain ⟨v, r, e1, e2, e3⟩ := h
  have e3' : r = [] := e3
  subst e3'
  exact ⟨v, e1, e2⟩
theorem RPs_ints : ∀ ns : List Int, RPs K F (ns.map .int) (ns.map V.int)
  | [] => by simp [RPs]
  | n :: ns => by
    simp only [List.map_cons, RPs]
    exact ⟨_, _, rfl, by simp only [RP], RPs_ints ns⟩
/-! ### sorting -/
theorem insA_perm {α : Type} (le : α → α → Bool) (x : α) : ∀ ys : List α, (insA le x ys).Perm (x :: ys)
  | [] => .refl _
  | y :: ys => by
    unfold insA
    split
    · exact .refl _
    · exact ((insA_perm le x ys).cons y).trans (.swap x y ys)
theorem srtA_perm {α : Type} (le : α → α → Bool) : ∀ xs : List α, (srtA le xs).Perm xs
  | [] => .refl _
  | x :: xs => (insA_perm le x _).trans ((srtA_perm le xs).cons x)
theorem insA_srt {α : Type} {le : α → α → Bool} (tot : ∀ a b, le a b = true ∨ le b a = true) (tr : ∀ a b c, le a b = true → le b c = true → le a c = true) (x : α) : ∀ {ys : List α}, ys.Pairwise (fun a b => le a b = true) → (insA le x ys).Pairwise fun a b => le a b = true
  | [], _ => by simp [insA]
  | y :: ys, h => by
    unfold insA
    obtain ⟨h1, h2⟩ := List.pairwise_cons.mp h
    split
    · rename_i hx
      refine List.pairwise_cons.mpr ⟨fun z hz => ?_, h⟩
      rcases List.mem_cons.mp hz with e | e
      · rw [e]; exact hx
      · exact tr _ _ _ hx (h1 z e)
    · rename_i hx
      refine List.pairwise_cons.mpr ⟨fun z hz => ?_, insA_srt tot tr x h2⟩
      rcases List.mem_cons.mp ((insA_perm le x ys).mem_iff.mp hz) with e | e
      · rw [e]; exact (tot x y).resolve_left hx
      · exact h1 z e
theorem srtA_srt {α : Type} {le : α → α → Bool} (tot : ∀ a b, le a b = true ∨ le b a = true) (tr : ∀ a b c, le a b = true → le b c = true → le a c = true) : ∀ xs : List α, (srtA le xs).Pairwise fun a b => le a b = true
  | [] => by simp [srtA]
  | x :: xs => insA_srt tot tr x (srtA_srt tot tr xs)
/-- what is sorted is one list -/
theorem srt_uniq {α : Type} {le : α → α → Bool} (anti : ∀ a b, le a b = true → le b a = true → a = b) : ∀ {xs ys : List α}, xs.Perm ys → xs.Pairwise (fun a b => le a b = true) → ys.Pairwise (fun a b => le a b = true) → xs = ys
  | [], ys, p, _, _ => (List.nil_perm.mp p).symm
  | x :: xs, [], p, _, _ => by simpa using p.length_eq
  | x :: xs, y :: ys, p, hx, hy => by
    obtain ⟨h1, h2⟩ := List.pairwise_cons.mp hx
    obtain ⟨h3, h4⟩ := List.pairwise_cons.mp hy
    have e : x = y := by
      by_cases e : x = y
      · exact e
      have m1 : x ∈ y :: ys := p.mem_iff.mp (by simp)
      have m2 : y ∈ x :: xs := p.mem_iff.mpr (by simp)
      rcases List.mem_cons.mp m1 with z | z
      · exact z
      · rcases List.mem_cons.mp m2 with w | w
        · exact w.symm
        · exact anti _ _ (h1 y w) (h3 x z)
    subst e
    rw [srt_uniq anti p.cons_inv h2 h4]
theorem leS_tot (a b : Sg) : decide (a ≤ b) = true ∨ decide (b ≤ a) = true := by
  simp only [decide_eq_true_eq]
  exact List.le_total a b
theorem leS_tr (a b c : Sg) (h : decide (a ≤ b) = true) (h' : decide (b ≤ c) = true) : decide (a ≤ c) = true := by
  simp only [decide_eq_true_eq] at *
  exact List.le_trans h h'
theorem leS_anti (a b : Sg) (h : decide (a ≤ b) = true) (h' : decide (b ≤ a) = true) : a = b := by
  simp only [decide_eq_true_eq] at *
  exact List.le_antisymm h h'
theorem srtI_of {ns ns' : List Int} (p : ns'.Perm ns) (h : ns'.Pairwise (· ≤ ·)) : ns' = srtI ns := by
  refine srt_uniq (le := fun a b => decide (a ≤ b)) (fun a b h h' => ?_) (p.trans (srtA_perm _ ns).symm) (by simpa using h) (srtA_srt (fun a b => ?_) (fun a b c h h' => ?_) ns)
  · simp only [decide_eq_true_eq] at h h'; omega
  · simp only [decide_eq_true_eq]; omega
  · simp only [decide_eq_true_eq] at h h' ⊢; omega
theorem risingS_pw : ∀ (ss : List Sg) (p : Sg), PyProof.Rows.risingS (mkS p) (ss.map mkS) = true → (∀ s ∈ ss, p ≤ s) ∧ ss.Pairwise fun a b => decide (a ≤ b) = true
  | [], _, _ => ⟨fun s h => by simp at h, List.Pairwise.nil⟩
  | s :: ss, p, h => by
    have h' : (!PySem.Spec.ltCps s p && PyProof.Rows.risingS (mkS s) (ss.map mkS)) = true := h
    rw [Bool.and_eq_true, PyProof.Rows.ltCps_eq] at h'
    obtain ⟨h1, h2⟩ := h'
    have le : p ≤ s := by
      have : ¬ s < p := by simpa using h1
      exact List.not_lt.mp this
    obtain ⟨k1, k2⟩ := risingS_pw ss s h2
    refine ⟨fun z hz => ?_, List.pairwise_cons.mpr ⟨fun z hz => decide_eq_true (k1 z hz), k2⟩⟩
    rcases List.mem_cons.mp hz with e | e
    · rw [e]; exact le
    · exact List.le_trans le (k1 z e)
theorem sortedS_pw : ∀ ss : List Sg, PyProof.Rows.sortedS (ss.map mkS) = true → ss.Pairwise fun a b => decide (a ≤ b) = true
  | [], _ => List.Pairwise.nil
  | s :: ss, h => by
    obtain ⟨k1, k2⟩ := risingS_pw ss s h
    exact List.pairwise_cons.mpr ⟨fun z hz => decide_eq_true (k1 z hz), k2⟩
theorem mkS_inj0 {x y : Sg} (h : mkS x = mkS y) : x = y := by
  have := congrArg (fun s : Str => s.cps.toList) h
  simpa [mkS] using this
theorem mkS_cps0 (x : Str) : mkS x.cps.toList = x := by
  unfold mkS
  cases x
  simp
theorem srtS_of {ss : List Sg} {ys : List Str} (p : ys.Perm (ss.map mkS)) (h : PyProof.Rows.sortedS ys = true) : ys = (srtS ss).map mkS := by
  have e : ys = (ys.map fun y => y.cps.toList).map mkS := by
    rw [List.map_map]
    conv => lhs; rw [← List.map_id ys]
    exact List.map_congr_left fun y _ => (mkS_cps0 y).symm
  rw [e] at h ⊢
  have p2 : (ys.map fun y => y.cps.toList).Perm ss := by
    have := p.map fun y : Str => y.cps.toList
    rw [List.map_map] at this
    have e2 : ss.map ((fun y : Str => y.cps.toList) ∘ mkS) = ss := by
      conv => rhs; rw [← List.map_id ss]
      exact List.map_congr_left fun y _ => by simp [mkS]
    rwa [e2] at this
  exact congrArg _ (srt_uniq leS_anti (p2.trans (srtA_perm _ ss).symm) (sortedS_pw _ h) (srtA_srt leS_tot leS_tr ss))
theorem strs_valsI : ∀ {ps : List PV} {ss : List Sg} {vs : List V}, strsOf ps = some ss → RPs K F ps vs → vs = (ss.map mkS).map V.str ∧ ∀ s ∈ ss, okS s = true
  | [], ss, vs, e, h => by
    simp only [strsOf, Option.some.injEq] at e
    subst e
    simp only [RPs] at h
    exact ⟨h, fun _ q => by simp at q⟩
  | .str s :: ps, ss, vs, e, h => by
    simp only [strsOf, Option.map_eq_some_iff] at e
    obtain ⟨ms, e1, e2⟩ := e
    subst e2
    simp only [RPs, RP] at h
    obtain ⟨v, r, h1, h2, h3⟩ := h
    obtain ⟨k1, k2⟩ := strs_valsI e1 h3
    subst h1 k1
    refine ⟨by rw [h2.1]; rfl, fun z hz => ?_⟩
    rcases List.mem_cons.mp hz with q | q
    · rw [q]; exact h2.2
    · exact k2 z q
  | .non :: _, _, _, e, _ => by simp [strsOf] at e
  | .bl _ :: _, _, _, e, _ => by simp [strsOf] at e
  | .int _ :: _, _, _, e, _ => by simp [strsOf] at e
  | .tup _ :: _, _, _, e, _ => by simp [strsOf] at e
  | .lst _ :: _, _, _, e, _ => by simp [strsOf] at e
  | .dk _ :: _, _, _, e, _ => by simp [strsOf] at e
  | .dt _ :: _, _, _, e, _ => by simp [strsOf] at e
  | .scr _ :: _, _, _, e, _ => by simp [strsOf] at e
theorem RPs_strs : ∀ ss : List Sg, (∀ s ∈ ss, okS s = true) → RPs K F (ss.map .str) ((ss.map mkS).map V.str)
  | [], _ => by simp [RPs]
  | s :: ss, h => by
    simp only [List.map_cons, RPs]
    exact ⟨_, _, rfl, by simp only [RP, true_and]; exact h s (by simp), RPs_strs ss fun z hz => h z (by simp [hz])⟩
theorem foldl_max : ∀ (ns : List Int) (n : Int), (ns.foldl max n = n ∨ ns.foldl max n ∈ ns) ∧ n ≤ ns.foldl max n ∧ ∀ y ∈ ns, y ≤ ns.foldl max n
  | [], n => ⟨.inl rfl, Int.le_refl _, fun y h => by simp at h⟩
  | m :: ns, n => by
    obtain ⟨h1, h2, h3⟩ := foldl_max ns (max n m)
    simp only [List.foldl_cons]
    refine ⟨?_, by omega, fun y hy => ?_⟩
    · rcases h1 with h | h
      · rw [h]
        by_cases z : n ≤ m
        · rw [Int.max_eq_right z]; exact .inr (by simp)
        · rw [Int.max_eq_left (by omega)]; exact .inl rfl
      · exact .inr (by simp [h])
    · rcases List.mem_cons.mp hy with e | e
      · subst e; omega
      · exact h3 y e
theorem foldl_min : ∀ (ns : List Int) (n : Int), (ns.foldl min n = n ∨ ns.foldl min n ∈ ns) ∧ ns.foldl min n ≤ n ∧ ∀ y ∈ ns, ns.foldl min n ≤ y
  | [], n => ⟨.inl rfl, Int.le_refl _, fun y h => by simp at h⟩
  | m :: ns, n => by
    obtain ⟨h1, h2, h3⟩ := foldl_min ns (min n m)
    simp only [List.foldl_cons]
    refine ⟨?_, by omega, fun y hy => ?_⟩
    · rcases h1 with h | h
      · rw [h]
        by_cases z : n ≤ m
        · rw [Int.min_eq_left z]; exact .inl rfl
        · rw [Int.min_eq_right (by omega)]; exact .inr (by simp)
      · exact .inr (by simp [h])
    · rcases List.mem_cons.mp hy with e | e
      · subst e; omega
      · exact h3 y e
theorem PKs.two {p q : PV} {vs : List V} (h : PKs K F H [p, q] vs) : ∃ v w, vs = [v, w] ∧ PK K F H p v ∧ PK K F H q w := by
  obtain ⟨v, r, e1, e2, w, r', e3, e4, e5⟩ := h
  have e5' : r' = [] := e5
  subst e5' e3
  exact ⟨v, w, e1, e2, e4⟩
theorem rd_bi {b : BI} {ps : List PV} {z : PV} {vs : List V} {Q : VK} (hh : HR' M K F ρ H st) (h : PKs K F H ps vs) (e : doBI b ps = some z) (post : PostE M K W σ F ρ H Q (.ok (.pv z) st)) : rBI K b vs H Q := by
  unfold doBI at e
  split at e
  · simp only [Option.some.injEq] at e; subst e
    obtain ⟨v, e1, a, ws, e2, e3, e4⟩ := h.one
    subst e1 e2
    exact ⟨_, _, rfl, .inl ⟨ws, .inl (.inl e3), rfl⟩, by rw [← e4.length]; exact post.tree hh (by simp only [RP])⟩
  · simp only [Option.some.injEq] at e; subst e
    obtain ⟨v, e1, e2⟩ := h.one
    simp only [PK, RP] at e2
    obtain ⟨a, ws, e2, e3, e4⟩ := e2
    subst e1 e2
    exact ⟨_, _, rfl, .inr ⟨ws, .inl (.inl (hh.sub _ _ e3)), rfl⟩, by rw [← e4.length]; exact post.tree hh (by simp only [RP])⟩
  · split at e
    · rename_i hl
      simp only [Option.some.injEq] at e; subst e
      obtain ⟨v, e1, e2⟩ := h.one
      subst e1
      obtain ⟨e3, _⟩ := e2.str
      subst e3
      refine ⟨_, (mkS _).length, rfl, ⟨by rw [mkS_len, line_eq]; exact hl, rfl⟩, ?_⟩
      rw [mkS_len]
      exact post.tree hh (by simp only [RP])
    · cases e
  · simp only [Option.some.injEq] at e; subst e
    obtain ⟨v, e1, e2⟩ := h.one
    subst e1
    exact ⟨_, by rw [e2.int], post.tree hh (by simp only [RP])⟩
  · simp only [Option.some.injEq] at e; subst e
    obtain ⟨v, e1, e2⟩ := h.one
    subst e1
    exact .inl (.inl ⟨_, by rw [e2.int], post.tree hh (by simp only [RP])⟩)
  · simp only [Option.some.injEq] at e; subst e
    obtain ⟨v, e1, e2⟩ := h.one
    simp only [PK, RP] at e2
    subst e1 e2
    exact .inl (.inr ⟨_, rfl, post.tree hh (by simp only [RP])⟩)
  · split at e
    · rename_i hl
      obtain ⟨v, e1, e2⟩ := h.one
      subst e1
      obtain ⟨e3, _⟩ := e2.str
      subst e3
      obtain ⟨i, hi, e4⟩ := Option.map_eq_some_iff.mp e
      subst e4
      exact .inr ⟨_, i, rfl, hi, by rw [mkS_len]; exact hl, post.tree hh (by simp only [RP])⟩
    · cases e
  · simp only [Option.some.injEq] at e; subst e
    obtain ⟨v, e1, a, ws, e2, e3, e4⟩ := h.one
    subst e1 e2
    refine ⟨a, ws, rfl, .inl (.inl (.inl e3)), fun l nl => post.made hh nl ?_⟩
    simp only [RP]
    exact ⟨l, ws, rfl, upd_same, RPs.mono (sub_upd (hh.fresh nl)) _ _ e4⟩
  · simp only [Option.some.injEq] at e; subst e
    obtain ⟨v, e1, e2⟩ := h.one
    simp only [PK, RP] at e2
    obtain ⟨a, ws, e2, e3, e4⟩ := e2
    subst e1 e2
    refine ⟨a, ws, rfl, .inr (.inl (.inl (hh.sub _ _ e3))), fun l nl => post.made hh nl ?_⟩
    simp only [RP]
    exact ⟨l, ws, rfl, upd_same, RPs.mono (sub_upd (hh.fresh nl)) _ _ e4⟩
  · simp only [Option.some.injEq] at e; subst e
    obtain ⟨v, e1, e2⟩ := h.one
    simp only [PK, RP] at e2
    obtain ⟨a, e2, e3⟩ := e2
    subst e1 e2
    refine ⟨a, _, rfl, .inl (hh.sub.sqL e3), fun l nl => post.made hh nl ?_⟩
    simp only [RP]
    exact ⟨l, _, rfl, upd_same, RPs_ints _⟩
  · simp only [Option.map_eq_some_iff] at e
    obtain ⟨ns, e0, e1⟩ := e
    subst e1
    obtain ⟨v, e1, a, ws, e2, e3, e4⟩ := h.one
    subst e1 e2
    have := ints_vals e0 e4
    subst this
    exact ⟨a, ns, rfl, .inl (.inl e3), post.tree hh (by simp only [RP])⟩
  · simp only [Option.map_eq_some_iff] at e
    obtain ⟨ns, e0, e1⟩ := e
    subst e1
    obtain ⟨v, e1, a, ws, e2, e3, e4⟩ := h.one
    subst e1 e2
    have := bools_vals e0 e4
    subst this
    exact ⟨a, ns, rfl, .inl (.inl e3), post.tree hh (by simp only [RP])⟩
  · simp only [Option.map_eq_some_iff] at e
    obtain ⟨ns, e0, e1⟩ := e
    subst e1
    obtain ⟨v, e1, a, ws, e2, e3, e4⟩ := h.one
    subst e1 e2
    have := bools_vals e0 e4
    subst this
    exact ⟨a, ns, rfl, .inl (.inl e3), post.tree hh (by simp only [RP])⟩
  · rename_i p
    unfold doRepr at e
    simp only at e
    split at e
    · rename_i hc
      simp only [Option.some.injEq] at e
      subst e
      simp only [Bool.and_eq_true, decide_eq_true_eq] at hc
      obtain ⟨⟨⟨⟨⟨c1, c2⟩, c3⟩, c4⟩, c5⟩, c6⟩ := hc
      obtain ⟨v, e1, e2⟩ := h.one
      subst e1
      obtain ⟨d1, d2⟩ := e2.dp hh.sub c2
      have es : (toD p).shown = mkS (shown p) := by
        unfold shown mkS
        cases (toD p).shown
        simp
      have ra : (∃ a, v = .ref a) ∨ (∃ x, p = .str x ∧ v = .str (mkS x)) ∨ (p = .non ∧ v = .non) := by
        cases p <;> simp only [isSq, Bool.false_eq_true] at c1
        · exact .inr (.inr ⟨rfl, e2⟩)
        · exact .inr (.inl ⟨_, rfl, e2.1⟩)
        · obtain ⟨a, _, e3, _⟩ := (show RP K F (.tup _) v from e2)
          exact .inl ⟨a, e3⟩
        · obtain ⟨a, _, e3, _⟩ := e2
          exact .inl ⟨a, e3⟩
      rcases ra with ⟨a, ea⟩ | ⟨x, ep, ea⟩ | ⟨ep, ea⟩
      · subst ea
        refine .inl ⟨a, toD p, rfl, d1, c4, PyData.hasDict_of_canLay _ d2, by rw [depth_toD]; exact c3, ?_, ?_⟩
        · rw [es, mkS_len, line_eq]; exact c6
        · rw [es]
          exact post.tree hh (by simp only [RP, true_and]; exact c5)
      · subst ep ea
        have er : reprText (mkS x) = mkS (shown (.str x)) := es
        refine .inr (.inl ⟨mkS x, rfl, ?_, ?_⟩)
        · rw [er, mkS_len, line_eq]; exact c6
        · rw [er]
          exact post.tree hh (by simp only [RP, true_and]; exact c5)
      · subst ep ea
        have er : ("None" : PySem.Str) = mkS (shown .non) := es
        refine .inr (.inr ⟨rfl, ?_⟩)
        rw [er]
        exact post.tree hh (by simp only [RP, true_and]; exact c5)
    · cases e
  · split at e
    · rename_i hc
      simp only [Option.some.injEq] at e
      subst e
      obtain ⟨v, e1, e2⟩ := h.one
      subst e1
      refine ⟨_, by rw [e2.int], hc.1, ?_⟩
      refine post.tree hh ?_
      simp only [RP]
      exact ⟨by rw [show mkS (numS _) = _ from mkS_cps0 _], hc.2⟩
    · cases e
  · simp only [Option.some.injEq] at e; subst e
    obtain ⟨v, w, e1, e2, e3⟩ := h.two
    subst e1
    refine .inl ⟨_, _, by rw [e2.int, e3.int], ?_⟩
    refine post.tree hh ?_
    simp only [RP]
    congr 1
    split <;> omega
  · simp only [Option.some.injEq] at e; subst e
    obtain ⟨v, w, e1, e2, e3⟩ := h.two
    subst e1
    refine .inl ⟨_, _, by rw [e2.int, e3.int], ?_⟩
    refine post.tree hh ?_
    simp only [RP]
    congr 1
    split <;> omega
  · split at e
    · rename_i n ns hi
      simp only [Option.some.injEq] at e; subst e
      obtain ⟨v, e1, a, ws, e2, e3, e4⟩ := h.one
      subst e1 e2
      have := ints_vals hi e4
      subst this
      refine .inr ⟨a, n :: ns, rfl, .inl (.inl e3), by simp, fun m hm hle => post.tree hh ?_⟩
      simp only [RP]
      obtain ⟨h1, h2, h3⟩ := foldl_max ns n
      have hu : maxI (n :: ns) = ns.foldl max n := rfl
      have mem : ns.foldl max n ∈ n :: ns := by
        rcases h1 with z | z
        · rw [z]; simp
        · simp [z]
      have l1 := hle _ mem
      have l2 : m ≤ ns.foldl max n := by
        rcases List.mem_cons.mp hm with z | z
        · rw [z]; exact h2
        · exact h3 _ z
      rw [hu]
      congr 1
      omega
    · cases e
  · split at e
    · rename_i n ns hi
      simp only [Option.some.injEq] at e; subst e
      obtain ⟨v, e1, a, ws, e2, e3, e4⟩ := h.one
      subst e1 e2
      have := ints_vals hi e4
      subst this
      refine .inr ⟨a, n :: ns, rfl, .inl (.inl e3), by simp, fun m hm hle => post.tree hh ?_⟩
      simp only [RP]
      obtain ⟨h1, h2, h3⟩ := foldl_min ns n
      have hu : minI (n :: ns) = ns.foldl min n := rfl
      have mem : ns.foldl min n ∈ n :: ns := by
        rcases h1 with z | z
        · rw [z]; simp
        · simp [z]
      have l1 := hle _ mem
      have l2 : ns.foldl min n ≤ m := by
        rcases List.mem_cons.mp hm with z | z
        · rw [z]; exact h2
        · exact h3 _ z
      rw [hu]
      congr 1
      omega
    · cases e
  · rename_i xs
    unfold doSort at e
    obtain ⟨v, e1, a, ws, e2, e3, e4⟩ := h.one
    subst e1 e2
    split at e
    · rename_i ns hi
      simp only [Option.some.injEq] at e; subst e
      have := ints_vals hi e4
      subst this
      refine .inl ⟨a, ns, rfl, .inl (.inl e3), fun ns' p hp hs np => post.made hh np ?_⟩
      rw [srtI_of hp hs]
      simp only [RP]
      exact ⟨p, _, rfl, upd_same, RPs_ints _⟩
    · split at e
      · rename_i ss hi
        simp only [Option.some.injEq] at e; subst e
        obtain ⟨e5, e6⟩ := strs_valsI hi e4
        subst e5
        refine .inr ⟨a, ss.map mkS, rfl, .inl (.inl e3), fun ys p hp hs np => post.made hh np ?_⟩
        rw [srtS_of hp hs]
        simp only [RP]
        exact ⟨p, _, rfl, upd_same, RPs_strs _ fun z hz => e6 z ((srtA_perm _ ss).mem_iff.mp hz)⟩
      · cases e
  · simp only [Option.some.injEq] at e; subst e
    obtain ⟨v, e1, a, ws, e2, e3, e4⟩ := h.one
    subst e1 e2
    refine ⟨a, ws, rfl, .inl ⟨.inl (.inl e3), fun l nl => post.made hh nl ?_⟩⟩
    simp only [RP]
    exact ⟨l, ws, rfl, upd_same, RPs.mono (sub_upd (hh.fresh nl)) _ _ e4⟩
  · simp only [Option.some.injEq] at e; subst e
    obtain ⟨v, e1, e2⟩ := h.one
    simp only [PK] at e2
    have e2' := e2
    simp only [RP] at e2
    obtain ⟨a, ws, e3, e4, e5⟩ := e2
    subst e1 e3
    exact ⟨a, ws, rfl, .inr ⟨.inl (.inl (hh.sub _ _ e4)), post.tree hh e2'⟩⟩
  · cases e
end
end Z
end

section
/-! ZJ: the look that a def of the text is what the small AST says. -/
namespace Z
open PySem L2
/-- a class: its name, its fields -/
structure CI where
  name : Str
  fields : List Nat
  /-- methods: name, def, how many parameters -/
  meths : List (Str × Nat × Nat) := []
/-- an error class: its name, parameters, fields from parameters (the last one set ahead) -/
structure EI where
  name : Str
  np : Nat
  fl : List (Nat × Nat)
structure Tab where
  defs : List (Option Str × Nat)
  glbs : List Str
  fnames : List Str := []
  cls : List CI := []
  errs : List EI := []
  /-- defs that may be called within an except suite -/
  hots : List Nat := []
  tabs : List Str := []
  dtabs : List Str := []
/-- what a method may be asked of: no super() -/
def plainO : Expr → Bool
  | .Call (.Name x _) [] _ _ => x != ("super" : Str)
  | .Call _ [] _ _ => false
  | _ => true
structure SC where
  N : List Str
  sc : Scope
  fn : Str → Bool
  T : Tab
  /-- within an except suite; the slot of its name -/
  hot : Bool := false
  exn : Option Nat := none
  /-- not within a comprehension -/
  top : Bool := true
def gl? (g : SC) (x : Str) : Bool := decide (g.sc.names.lookup x = some .globalImplicit) && !(x == ("__debug__" : Str))
def vis? (g : SC) (x : Str) : Bool := (match g.sc.names.lookup x with
  | some .local | some .cell | some .free => true
  | _ => false) && !(x == ("__debug__" : Str)) && !(x == ("__classdict__" : Str))
def loc? (g : SC) (x : Str) : Bool := match g.sc.names.lookup x with
  | some .local => true
  | some .cell => g.fn x
  | _ => false
def isSet : Expr → Bool
  | .Set .. => true
  | _ => false
def isSlice : Expr → Bool
  | .Slice .. => true
  | _ => false
def isStar : Expr → Bool
  | .Starred .. => true
  | _ => false
def isComp : Expr → Bool
  | .ListComp .. | .SetComp .. | .DictComp .. => true
  | _ => false
/-- its test is its value's truth -/
def plainT : Expr → Bool
  | .UnaryOp .Not _ _ | .BoolOp .. | .IfExp .. | .Compare .. => false
  | _ => true
def litOk : PV → Const → Bool
  | .non, .none => true
  | .bl b, .bool c => b == c
  | .int i, .int j => i == j
  | .str s, .str x => decide (x = mkS s) && okS s
  | _, _ => false
def tyName : Ty → Str
  | .int => "int" | .bool => "bool" | .str => "str" | .list => "list" | .tuple => "tuple"
def bmName : BM → Str
  | .append => "append" | .get2 => "get" | .pop0 => "pop" | .join => "join" | .extend => "extend" | .insert => "insert" | .index => "index" | .sindex => "index" | .popAt => "pop"
def bmAr : BM → Nat
  | .append => 1 | .get2 => 2 | .pop0 => 0 | .join => 1 | .extend => 1 | .insert => 2 | .index => 1 | .sindex => 1 | .popAt => 1
def rangeN : Str := "range"
mutual
def chkG (g : SC) : MG → Expr → Bool
  | .nm i, e => (match e with
    | .Name x _ => decide (g.N[i]? = some x) && loc? g x
    | _ => false)
  | .tp gs, e => (match e with
    | .Tuple es _ _ => !g.hot && chkGs g gs es
    | _ => false)
def chkGs (g : SC) : List MG → List Expr → Bool
  | [], es => es.isEmpty
  | x :: xs, es => (match es with
    | e :: es => chkG g x e && !isStar e && chkGs g xs es
    | [] => false)
end
mutual
def slotsG : MG → List Nat
  | .nm i => [i]
  | .tp gs => slotsGs gs
def slotsGs : List MG → List Nat
  | [] => []
  | g :: gs => slotsG g ++ slotsGs gs
end
def opD (o p : Operator) : Bool := decide (o = p)
def comps : List Comprehension → Option (Expr × Expr × List Expr)
  | [⟨t, it, is, a⟩] => if a = 0 then some (t, it, is) else none
  | _ => none
def ownOf (N : List Str) : List Nat → Option (List (Str × Nat))
  | [] => some []
  | i :: r => match N[i]? with
    | some x => (ownOf N r).map ((x, i) :: ·)
    | none => none
def SC.blk (g : SC) (scope : Scope) : SC := { g with top := false, sc := relS scope g.sc, fn := fun x => decide (scope.names.lookup x = some .cell) }
/-- what is looked at of an iterable -/
def isTupE : Expr → Bool
  | .Tuple .. => true
  | _ => false
def enumN : Str := "enumerate"
def srcOf (g : SC) (ik : IK) (t e : Expr) : Option (List Expr) := match ik with
  | .enum => match e with
    | .Call (.Name f _) [x] [] _ => if decide (f = enumN) && gl? g f && isTupE t && !isStar x then some [x] else none
    | _ => none
  | .val => if isSet e then none else some [e]
  | .range => match e with
    | .Call (.Name f _) xs [] _ => if decide (f = rangeN) && gl? g f && decide (1 ≤ xs.length) && decide (xs.length ≤ 3) then some xs else none
    | _ => none
/-- a written dict -/
def keyC : Ky → Const → Bool
  | .inl i, .int j => i == j
  | .inr s, .str x => decide (x = mkS s) && okS s
  | _, _ => false
def dselOk : List (Ky × PV) → List (Option Expr) → List Expr → Bool
  | [], ks, vs => ks.isEmpty && vs.isEmpty
  | (k, p) :: r, ks, vs => (match ks, vs with
    | some (.Constant c _ _) :: ks, .Constant d _ _ :: vs => keyC k c && litOk p d && dselOk r ks vs
    | _, _ => false)
def dictN : Str := "dict"
mutual
def chkE (g : SC) : ME → Expr → Bool
  | .var i, e => (match e with
    | .Name x _ => decide (g.N[i]? = some x) && vis? g x
    | _ => false)
  | .lit p, e => (match e with
    | .Constant c _ _ => litOk p c
    | _ => false)
  | .glb k, e => (match e with
    | .Name x _ => decide (g.T.glbs[k]? = some x) && gl? g x
    | _ => false)
  | .tup es, e => (match e with
    | .Tuple xs _ _ => chkEs g es xs
    | _ => false)
  | .lst _ es, e => (match e with
    | .List xs _ => chkEs g es xs
    | _ => false)
  | .dnew _, e => (match e with
    | .Dict [] [] _ => true
    | _ => false)
  | .bin op a b, e => (match e with
    | .BinOp x o y _ => decide (o = opB op) && chkE g a x && chkE g b y
    | _ => false)
  | .cmp op a b, e => (match e with
    | .Compare x [o] [y] _ => decide (o = opC op) && !isSet y && chkE g a x && chkE g b y
    | _ => false)
  | .boolop c es, e => (match e with
    | .BoolOp o xs _ => decide (o = if c then BoolOp.And else BoolOp.Or) && !es.isEmpty && chkEs g es xs
    | _ => false)
  | .not t, e => (match e with
    | .UnaryOp .Not x _ => chkE g t x
    | _ => false)
  | .neg a, e => (match e with
    | .UnaryOp .USub x _ => chkE g a x
    | _ => false)
  | .ite c a b, e => (match e with
    | .IfExp c' a' b' _ => chkT g c c' && chkE g a a' && chkE g b b'
    | _ => false)
  | .idx a i, e => (match e with
    | .Subscript x y _ => !isSlice y && chkE g a x && chkE g i y
    | _ => false)
  | .slc a l lo h hi, e => (match e with
    | .Subscript x (.Slice le ue none _) _ => chkE g a x && (match le with
      | some e => l && chkE g lo e
      | none => !l) && (match ue with
      | some e => h && chkE g hi e
      | none => !h)
    | _ => false)
  | .slcL a l lo h hi, e => (match e with
    | .Subscript x (.Slice le ue none _) _ => chkE g a x && (match le with
      | some e => l && chkE g lo e
      | none => !l) && (match ue with
      | some e => h && chkE g hi e
      | none => !h)
    | _ => false)
  | .tabI t i, e => (match e with
    | .Subscript (.Name x _) y _ => decide (g.T.tabs[t]? = some x) && gl? g x && !isSlice y && chkE g i y
    | _ => false)
  | .tabL t, e => (match e with
    | .Call (.Name f _) [.Name x _] [] _ => decide (f = "len") && gl? g f && decide (g.T.tabs[t]? = some x) && gl? g x
    | _ => false)
  | .tabX t es, e => (match e with
    | .Call (.Attribute (.Name x _) n apos) (y :: ys) [] cpos => decide (n = "index") && (apos.endLine == cpos.line) && decide (g.T.tabs[t]? = some x) && gl? g x && decide (es.length < 20) && chkEs g es (y :: ys)
    | _ => false)
  | .rev a, e => (match e with
    | .Subscript x (.Slice none none (some (.UnaryOp .USub (.Constant (.int 1) _ _) _)) _) _ => chkE g a x
    | _ => false)
  | .isn neg a, e => (match e with
    | .Compare x [o] [.Constant .none _ _] _ => decide (o = if neg then CmpOp.IsNot else CmpOp.Is) && chkE g a x
    | _ => false)
  | .isi t a, e => (match e with
    | .Call (.Name f _) [x, .Name ty _] [] _ => decide (f = "isinstance") && decide (ty = tyName t) && gl? g f && gl? g ty && !isStar x && chkE g a x
    | _ => false)
  | .bi b es, e => (match e with
    | .Call (.Name f _) xs [] _ => decide (f = biName b) && gl? g f && !es.isEmpty && chkEs g es xs && (!g.hot || (!needsCalm b && (!needsShow b || g.exn.isSome)))
    | _ => false)
  | .bm m r es, e => (match e with
    | .Call (.Attribute o a apos) xs [] cpos => decide (a = bmName m) && chkE g r o && decide (es.length = bmAr m) && (apos.endLine == cpos.line) && (match o with
      | .Call _ [] _ _ => false
      | _ => true) && chkEs g es xs
    | _ => false)
  | .call f es, e => (match e with
    | .Call (.Name x _) xs [] _ => decide (g.T.defs[f]? = some (some x, es.length)) && gl? g x && !es.isEmpty && chkEs g es xs && (!g.hot || g.T.hots.contains f)
    | _ => false)
  | .lc _ elt tg ik src ifs own, e => (match e with
    | .ListComp e gs scope _ => (match comps gs, ownOf g.N own with
      | some (t, it, is), some ow => (match srcOf g ik t it with
        | some xs => blkC g.N g.sc scope ow && (slotsG tg).all (own.contains ·) && chkG (g.blk scope) tg t && chkEs g src xs && chkIfs (g.blk scope) ifs is && chkE (g.blk scope) elt e && !g.hot
        | none => false)
      | _, _ => false)
    | _ => false)
  | .lcW _ elt tg src ifs own, e => (match e with
    | .ListComp e gs scope _ => (match comps gs, ownOf g.N own with
      | some (t, it, is), some ow => blkC g.N g.sc scope ow && (slotsG tg).all (own.contains ·) && chkG (g.blk scope) tg t && chkE g src it && chkIfs (g.blk scope) ifs is && chkE (g.blk scope) elt e && !isSet it && !g.hot
      | _, _ => false)
    | _ => false)
  | .frz a, e => chkE g a e
  | .fld c a f, e => (match e with
    | .Attribute x n _ => (match x with
      | .Call _ [] _ _ => false
      | _ => true) && decide (g.T.fnames[f]? = some n) && (match g.T.cls[c]? with
      | some ci => ci.fields.contains f
      | none => false) && chkE g a x
    | _ => false)
  | .mcall c f a es, e => (match e with
    | .Call (.Attribute o n apos) xs [] cpos => !g.hot && (apos.endLine == cpos.line) && plainO o && decide (es.length < 20) && (match g.T.cls[c]? with
      | some ci => ci.meths.contains (n, f, es.length + 1) && !g.T.fnames.contains n
      | none => false) && chkE g a o && chkEs g es xs
    | _ => false)
  | .new c f es, e => (match e with
    | .Call (.Name x _) xs [] _ => !g.hot && gl? g x && (match g.T.cls[c]? with
      | some ci => decide (ci.name = x) && ci.meths.contains ("__init__", f, es.length + 1)
      | none => false) && chkEs g es xs
    | _ => false)
  | .xfld i f, e => (match e with
    | .Attribute (.Name x _) n _ => decide (g.exn = some i) && decide (g.N[i]? = some x) && vis? g x && decide (g.T.fnames[f]? = some n)
    | _ => false)
  | .xisi i c, e => (match e with
    | .Call (.Name fn _) [.Name x _, .Name cn _] [] _ => decide (fn = "isinstance") && gl? g fn && decide (g.exn = some i) && decide (g.N[i]? = some x) && vis? g x && gl? g cn && decide ((g.T.errs[c]?).map (·.name) = some cn)
    | _ => false)
  | .dsel kvs i, e => (match e with
    | .Subscript (.Dict ks vs _) y _ => dselOk kvs ks vs && decide (kvs.length ≤ 15) && !kvs.isEmpty && decide ((kvs.map (·.1)).Nodup) && !isSlice y && chkE g i y
    | _ => false)
  | .tabD t i, e => (match e with
    | .Subscript (.Name x _) y _ => decide (g.T.dtabs[t]? = some x) && gl? g x && !isSlice y && chkE g i y
    | _ => false)
  | .dcopy a, e => (match e with
    | .Call (.Name f _) [x] [] _ => decide (f = dictN) && gl? g f && !isStar x && chkE g a x
    | _ => false)
  | .dpairs a, e => (match e with
    | .Call (.Name f _) [x] [] _ => decide (f = dictN) && gl? g f && !isStar x && !g.hot && chkE g a x
    | _ => false)
  | .lcopy a, e => (match e with
    | .Call (.Name f _) [x] [] _ => decide (f = biName .list) && gl? g f && !isStar x && chkE g a x
    | _ => false)
  | .cat a b, e => (match e with
    | .BinOp x o y _ => decide (o = .Add) && chkE g a x && chkE g b y
    | _ => false)
def chkEs (g : SC) : List ME → List Expr → Bool
  | [], es => es.isEmpty
  | m :: ms, es => (match es with
    | e :: es => !isStar e && chkE g m e && chkEs g ms es
    | [] => false)
def chkIfs (g : SC) : List MT → List Expr → Bool
  | [], es => es.isEmpty
  | t :: ts, es => (match ts, es with
    | [], [e] => chkT g t e
    | _, _ => false)
def chkT (g : SC) : MT → Expr → Bool
  | .val m, e => plainT e && chkE g m e
  | .cmp op a b, e => (match e with
    | .Compare x [o] [y] _ => decide (o = opC op) && !isSet y && chkE g a x && chkE g b y
    | _ => false)
  | .chain o1 o2 a b c, e => (match e with
    | .Compare x [p, q] [y, z] _ => decide (p = opC o1) && decide (q = opC o2) && !isSet y && !isSet z && chkE g a x && chkE g b y && chkE g c z
    | _ => false)
  | .isn neg a, e => (match e with
    | .Compare x [o] [.Constant .none _ _] _ => decide (o = if neg then CmpOp.IsNot else CmpOp.Is) && chkE g a x
    | _ => false)
  | .boolop c ts, e => (match e with
    | .BoolOp o xs _ => decide (o = if c then BoolOp.And else BoolOp.Or) && !ts.isEmpty && chkTs g ts xs
    | _ => false)
  | .not t, e => (match e with
    | .UnaryOp .Not x _ => chkT g t x
    | _ => false)
def chkTs (g : SC) : List MT → List Expr → Bool
  | [], es => es.isEmpty
  | t :: ts, es => (match es with
    | e :: es => chkT g t e && chkTs g ts es
    | [] => false)
end
end Z
end

section
/-! ZV: an error with fields is asked for its class; errors with an own __init__ are made. -/
namespace Z
open PySem PySem.Spec PySem.Calls PyProof.Rows PySem.W L2
section
variable {prog : Program} {w : World} {A : Around} {E : Value → Shared → Prop} {s : Shared} {K : Frag} {x D : Addr} {ox : Obj} {od : Option Obj}
theorem cls_data (T : ExcC K D) : findObj K D od "__class__" = some (.bind (.builtin "getset_descriptor.__get__") (.builtin "object.__class__")) := by
  obtain ⟨cd, hcd, _⟩ := any_some T.hd
  unfold findObj
  rw [hcd, Option.bind_some, T.ha, Option.bind_some]
  simp [T.hn, T.ht]
theorem asked_class (T : ExcC K D) {Q : Option Value → Shared → Prop} (X : K.In s.heap) (J : InstAt s.heap x ox D od) (fin : Q (some (.ref D)) { s with toks := s.toks + 1 }) : wpAny (model prog w) A (getAttr? (.ref x) "__class__") Q E s := by
  obtain ⟨hh, gg, dr, tk, ost⟩ := s
  have t0 := J.type (M := model prog w)
  have t1 := looks_findIn (M := model prog w) X T.hg
  have t2 := looks_findIn (M := model prog w) X T.hk
  have t3 := looks_find (M := model prog w) X J (cls_data (od := od) T)
  have base : Looks (model prog w) hh (isInstance (.ref x) (.type "BaseException")) true := t0.andThen (looks_subIn X T.hs)
  have n0 : (Value.builtin "BaseException.__getattribute__" == Value.builtin "object.__getattribute__") = false := by decide +kernel
  have n1 : (onTheHeap (Value.ref D) && Value.builtin "BaseException.__getattribute__" == Value.builtin "object.__getattribute__") = false := by rw [n0]; rfl
  have n2 : (false && onTheHeap (Value.builtin "BaseException.__getattribute__")) = false := rfl
  unfold getAttr? getAttrBy? getAttrBy
  refine wpAny_bind (wpAny_mkText ?_)
  refine wpAny_bind (wpAny_attempt (wpAny_holding ?_))
  refine wpAny_bind (t0.at (wpAny_bind (t1.at ?_)))
  show wpAny _ _ (if (onTheHeap (Value.ref D) && Value.builtin "BaseException.__getattribute__" == Value.builtin "object.__getattribute__") = true then _ else _) _ _ _
  rw [n1]
  rw [if_neg Bool.false_ne_true]
  unfold getAttrByItsOwn hookBefore
  refine wpAny_bind ?_
  rw [if_pos (show onTheHeap (Value.ref D) = true from rfl)]
  refine t2.at (wpAny_bind (wpAny_attempt (wpAny_holding ?_)))
  unfold callGetattribute
  rw [n2]
  rw [if_neg Bool.false_ne_true]
  unfold boundAndCalled
  rw [PySem.F.excAttr_ValueError.ga.bind (.ref x)]
  refine wpAny_bind (wpAny_pure ?_)
  show wpAny _ _ (call (.builtin "BaseException.__getattribute__") [.ref x, .str "__class__" tk]) _ _ _
  refine wpAny_call (codeAny_call_builtin PySem.F.excAttr_ValueError.ga.plain PySem.F.entry_bexc_ga ?_)
  refine @check_slot (model prog w) _ _ ⟨hh, gg, dr, tk + 1, ost⟩ "BaseException.__getattribute__" "BaseException" "__getattribute__" (.ref x) [.str "__class__" tk] [] _ (by decide +kernel) (by decide +kernel) base (PySem.F.args_bexc_ga (.ref x) (.str "__class__" tk)) ?_
  unfold Builtin.«object.__getattribute__»
  refine wpAny_bind (wpAny_of_eq (a := ((Value.ref x : Value), [Value.str "__class__" tk])) (by first | rfl | (simp only [slotArgs]; rfl)) ?_)
  refine wpAny_bind (wpAny_pure ?_)
  refine wpAny_bind (t0.at (wpAny_bind (t3.at ?_)))
  show wpAny _ _ (holding [Value.builtin "object.__class__"] (call (.builtin "getset_descriptor.__get__") [.builtin "object.__class__", .ref x, .ref D]) >>= ret) _ _ _
  refine wpAny_bind (wpAny_holding (wpAny_call (class_get (s := ⟨hh, gg, dr, tk + 1, ost⟩) (ox := ox) (od := od) X J T.hm ?_)))
  refine wpAny_pure ?_
  show wpAny _ _ (handedOut (.ref D)) _ _ _
  rw [handedOut_of (v := .ref D) rfl]
  first
    | exact wpAny_pure (wpAny_pure fin)
    | exact wpAny_pure fin
    | exact wpAny_pure (wpAny_bind (wpAny_pure (wpAny_pure fin)))
theorem kitx_err (T : ExcC K D) : KitX K (.ref x) (.ref D) (fun h => InstAt h x ox D od) where
  ty := fun _ _ _ J => J.type
  it := fun _ _ X _ => by
    obtain ⟨cd, hcd, _⟩ := any_some T.hd
    unfold clsIn at hcd
    split at hcd
    · rename_i c1 d1 cd1 sl1 hob
      intro A1 Q1 E1 s1 kp q
      unfold isType loadHead
      exact wpAny_bind (wpAny_loadPart (kp _ _ (X _ _ hob)) (wpAny_pure q))
    · cases hcd
  ne := fun h tp dd its n sl X htp => by
    obtain ⟨cd, hcd, _⟩ := any_some T.hd
    refine Bool.eq_false_iff.mpr fun q => ?_
    obtain rfl : D = tp := Value.ref.inj (beq_iff_eq.mp q)
    unfold clsIn at hcd
    split at hcd
    · rename_i c1 d1 cd1 sl1 hob
      have z := (X _ _ hob).symm.trans htp
      cases z
    · cases hcd
  ca := fun X J q => asked_class T X J q
end
/-- isinstance(e, c), e the error that the suite holds, with fields or without -/
def rIsX (K : Frag) (D a : Addr) (d : Option Addr) : List V → Hp → VK → Prop := fun xs H Q => ∃ (c : V) (cv : Value) (b : Bool), xs = [.ref a, c] ∧ (∀ u, RelV c u → u = cv) ∧ (d = none ∨ ∃ dd fs, d = some dd ∧ H dd = some (.xd fs)) ∧ kitOne K (.ref D) cv = some b ∧ Q (.bl b) H
theorem call_isX {X : Cx} {a D : Addr} {oe : Obj} {d : Option Addr} {pn : List (Addr × Obj)} (T : ExcC X.K D) (hz : Zc (.ref D) d oe) (hf : ∃ vs, oe.data = .fields vs) : CallR (X.suite a ((a, oe) :: pn)) (.builtin "isinstance") (rIsX X.K D a d) := by
  intro pins s σ H xs us Q I r h
  obtain ⟨c, cv, b, rfl, hcv, hd, e, q⟩ := h
  cases r with
  | cons rx rr =>
    cases rr with
    | cons rt rr =>
      cases rr
      cases rx
      have ec := hcv _ rt
      subst ec
      obtain ⟨hget, _⟩ := I.pin (a, oe) (List.mem_append.mpr (.inl List.mem_cons_self))
      obtain ⟨vs, hv⟩ := hf
      have J : ∃ od, InstAt s.heap a oe D od := by
        rcases hd with hd | ⟨dd, fs, hd, hx⟩
        · refine ⟨none, hget, hz.1, by unfold notCls; rw [hv] <;> rfl, ?_⟩
          rw [hz.2, hd]; trivial
        · obtain ⟨mA, hns, hr⟩ := (show ObjOk X.prog X.w H s.heap dd (.xd fs) from I.hok dd _ hx)
          obtain ⟨od, es, ep, ho, _⟩ := hns
          refine ⟨some od, hget, hz.1, by unfold notCls; rw [hv] <;> rfl, ?_⟩
          rw [hz.2, hd]; exact ho
      obtain ⟨od, J⟩ := J
      exact kia_one (kitx_err T) I.kIn J e (fun z => nomatch z) fun tk => ⟨.bl b, H, I.kept (t' := tk) fun _ _ z => z, rfl, q⟩
end Z
end

section
/-! ZW: errors whose __init__ keeps its parameters in fields: made, raised. -/
namespace Z
open PySem PySem.Spec PyProof.Rows L2
section
variable {X : Cx} {e : Expr} {es : List Expr} {ta : TA} {p pos : Pos}
/-- C(e, ..) behind raise -/
theorem pmkX {CX : CXT} {x : Str} {C fI : Addr} {k : Nat} {fd : FuncData} {ps : List Str} {sp : Sp} (T : OexC X.K C) (iC : PySem.W.findIn X.K (.ref C) "__init__" = some (some (.ref fI))) (tI : PySem.W.typeIn X.K (.ref fI) = some (.type "function"))
    (FI : FnOk X.prog X.w X.K X.mg X.base CX k fI fd ps sp) (room : Room (k + 1) X.A) (bd : Binds X.K fd ps []) (ps0 : Passes CX X (fun _ _ _ => False)) (hg : Gl X x) (hm : X.mg x = some (.ref C)) (ha : PA X (e :: es) ta)
    (hdb : (x == ("__debug__" : Str)) = false) (st : starEach (e :: es) X.env = (false, eval e X.env) :: starEach es X.env) (pl : (backTo pos (starEach es X.env)).any (·.1) = false) :
    L2N.PMk X (.Call (.Name x p) (e :: es) [] pos) (tMkO C sp [] ta) := by
  intro pins s σ H Q I h
  obtain ⟨nm, q, N, bs, bm, sn, sub, ab, col, dd, k0, k1, k2, k3, k5, hC, hbm⟩ := T.cls
  refine wpAny_Call_Name_kw (ld_glob I hg hm ?_ hdb)
  refine PySem.W.callWith_K (h₀ := X.base) I.ok.mod.kin T.kC (thn (ha.run pos pins s σ H _ I h) fun us s1 hs1 => ?_) st pl
  obtain ⟨vs, H1, J, rv, hlen, hall⟩ := hs1
  refine ⟨J.kIn, ?_⟩
  show wpAny _ _ (call (.ref C) us) _ _ _
  obtain ⟨h0, gs, drn, tks, ost⟩ := s1
  have up1 : h0.objs.size ≤ h0.objs.size + 1 := Nat.le_succ _
  have keep : ∀ b o, h0.get? b = some o → ((h0.push (PySem.W.kdv_tup us)).push (PySem.HandSPX.excO C h0.objs.size)).get? b = some o := fun b o z => Heap.get?_push_of_some _ (Heap.get?_push_of_some _ z)
  have there : ((h0.push (PySem.W.kdv_tup us)).push (PySem.HandSPX.excO C h0.objs.size)).get? (h0.objs.size + 1) = some (PySem.HandSPX.excO C h0.objs.size) := by heap_get
  have J2 := J.laid (t' := tks) (a := h0.objs.size + 1) (o := exo (h0.objs.size + 1) C none) keep up1 (exo_ok there)
  have hcall := hall (h0.objs.size + 1) (J.hok.fresh up1)
  have rv2 : Vals (V.ref (h0.objs.size + 1) :: (vs ++ [])) (Value.ref (h0.objs.size + 1) :: (us ++ [])) := .cons rfl (rv.append .nil)
  have len : (Value.ref (h0.objs.size + 1) :: us ++ []).length = ps.length := by
    have z := rv2.length
    rw [FI.len _ _ _ _ hcall] at z
    exact z.symm
  have few : us.length ≤ sizeLine := by
    rw [← Paired.length rv, sizeLine_eq]
    omega
  have bz := bd _ (Value.ref (h0.objs.size + 1) :: us) J2.kIn len
  rw [List.cons_append] at bz
  have hrun := FI.run _ X.stack _ _ ⟨Value.ref (h0.objs.size + 1) :: us, []⟩ (Value.ref (h0.objs.size + 1) :: (us ++ [])) _ _ (fun _ _ _ => False) (room.make C us []) (J2.env0.make C us []) bz rv2 hcall
  refine wpAny_call (PySem.HandSPX.call_own F.excBase_ValueError (fun Y => PySem.HandSPX.refsVE_contains Y bm hbm) (J.kIn _ _ hC) (PySem.W.looks_findIn J.kIn iC) (fun self => PySem.W.bind_fn J.kIn self tI) few (codeAny_mono hrun fun r s' back => ?_))
  cases r with
  | error er => exact ps0 pins σ _ _ er s' J2 back
  | ok fl =>
    cases fl with
    | next => exact False.elim back
    | brk => exact False.elim back
    | cont => exact False.elim back
    | ret u =>
      obtain ⟨v, H2, os2, bare2, un2, hok2, rvv, ev, d, fs, ea, ed, nd, fin⟩ := back
      subst ev
      obtain ⟨h2, g2, d2, t2, o2⟩ := s'
      obtain ⟨t0, G0, J3, kG, ge, hoe, na⟩ := mk_end0 (d2 := d2) (t2 := t2) J up1 keep un2 hok2 os2 bare2 ea ed nd
      exact ⟨rvv, h0.objs.size + 1, _, _, ⟨G0, g2, d2, t2, o2⟩, _, .ref C, some d, rfl, J3, kG, ge, hoe, ⟨rfl, rfl, fun vs z => by cases z; rfl⟩, rfl, rfl, na, rfl, bare2, raises_own T.exC T.tyC, fin⟩
end
/-! ### the body of such an __init__ -/
/-- the fields that the stores leave, the last one ahead -/
def extF (ys : List V) : List (Str × V) → List (Str × Nat) → Option (List (Str × V))
  | acc, [] => some acc
  | acc, (f, i) :: r => match ys[i]? with
    | some y => extF ys ((f, y) :: acc) r
    | none => none
def tInit (K : PySem.W.Frag) : List (Str × Nat) → TS
  | [] => tNext
  | (f, i) :: r => tSeq (tOst K f (tVar 0) (tVar (i + 1))) (tInit K r)
def chkInit (N : List Str) (sc : Scope) : List (Str × Nat) → List Stmt → Bool
  | [], ss => ss.isEmpty
  | (f, i) :: r, ss => (match ss with
    | .Assign [.Attribute (.Name a _) g _] (.Name x _) _ :: ss => decide (g = f) && decide (N[0]? = some a) && decide (N[i + 1]? = some x) && vis? { N := N, sc := sc, fn := fun _ => true, T := { defs := [], glbs := [] } } a && vis? { N := N, sc := sc, fn := fun _ => true, T := { defs := [], glbs := [] } } x && chkInit N sc r ss
    | _ => false)
theorem vis_of {X : Cx} {N : List Str} {sc : Scope} {T : Tab} (hs : X.env.scope = sc) {x : Str} (h : vis? { N := N, sc := sc, fn := fun _ => true, T := T } x = true) : Vis X.env.scope x ∧ (x == ("__debug__" : Str)) = false ∧ (x == ("__classdict__" : Str)) = false := by
  simp only [vis?, Bool.and_eq_true, Bool.not_eq_true'] at h
  refine ⟨?_, h.1.2, h.2⟩
  have h1 := h.1.1
  unfold Vis
  rw [hs]
  split at h1
  · exact .inl (by assumption)
  · exact .inr (.inl (by assumption))
  · exact .inr (.inr (by assumption))
  · cases h1
theorem pss_init {X : Cx} {N : List Str} {sc : Scope} (hN : X.N = N) (hs : X.env.scope = sc) : ∀ {r : List (Str × Nat)} {ss : List Stmt}, chkInit N sc r ss = true → PSs X ss (tInit X.K r)
  | [], ss, h => by
    simp only [chkInit, List.isEmpty_iff] at h
    subst h
    exact pss_nil
  | (f, i) :: r, ss, h => by
    unfold chkInit at h
    split at h
    · simp only [Bool.and_eq_true, decide_eq_true_eq] at h
      obtain ⟨⟨⟨⟨⟨h1, h2⟩, h3⟩, h4⟩, h5⟩, h6⟩ := h
      subst h1
      obtain ⟨v1, v2, v3⟩ := vis_of hs h4
      obtain ⟨w1, w2, w3⟩ := vis_of hs h5
      exact pss_cons (ps_ost (pe_var (by rw [hN]; exact h2) v1 v2 v3) (pe_var (by rw [hN]; exact h3) w1 w2 w3)) (pss_init hN hs h6)
    · cases h
section
variable {K : PySem.W.Frag} {C a : Addr} {ys : List V}
theorem init_old (T : OexC K C) : ∀ {r : List (Str × Nat)} {acc fs : List (Str × V)} {D : Ends} {σ : L2.St} {H : Hp} {d : Addr}, (∀ q ∈ r, PySem.W.findIn K (.ref C) q.1 = some none) → H a = some (exo a C (some d)) → H d = some (exd d acc) → d ≠ a → acc.length + r.length ≤ 900 →
    σ[0]? = some (some (.ref a)) → (∀ i y, ys[i]? = some y → σ[i + 1]? = some (some y)) → extF ys acc r = some fs → (∀ H', H' a = some (exo a C (some d)) → H' d = some (exd d fs) → (∀ b, b ≠ d → H' b = H b) → D.nx σ H') → tInit K r D σ H
  | [], acc, fs, D, σ, H, d, hno, ea, ed, ne, hl, s0, sy, ex, q => by
    simp only [extF, Option.some.injEq] at ex
    subst ex
    exact q H ea ed fun _ _ => rfl
  | (f, i) :: r, acc, fs, D, σ, H, d, hno, ea, ed, ne, hl, s0, sy, ex, q => by
    unfold extF at ex
    split at ex
    · rename_i y hy
      refine ⟨y, sy i y hy, _, s0, a, C, rfl, T, hno _ List.mem_cons_self, .inr ⟨d, acc, ea, ed, by simp only [List.length_cons] at hl; omega, ?_⟩⟩
      refine init_old T (d := d) (fun z hz => hno z (List.mem_cons_of_mem _ hz)) (by rw [upd_ne (Ne.symm ne)]; exact ea) upd_same ne (by simp only [List.length_cons] at hl ⊢; omega) s0 sy ex fun H' e1 e2 e3 => ?_
      exact q H' e1 e2 fun b hb => by rw [e3 b hb, upd_ne hb]
    · cases ex
theorem init_new (T : OexC K C) {f : Str} {i : Nat} {r : List (Str × Nat)} {fs : List (Str × V)} {D : Ends} {σ : L2.St} {H : Hp} (hno : ∀ q ∈ (f, i) :: r, PySem.W.findIn K (.ref C) q.1 = some none) (ea : H a = some (exo a C none)) (hl : r.length ≤ 800)
    (s0 : σ[0]? = some (some (.ref a))) (sy : ∀ i y, ys[i]? = some y → σ[i + 1]? = some (some y)) (ex : extF ys [] ((f, i) :: r) = some fs)
    (q : ∀ d H', H d = none → d ≠ a → H' a = some (exo a C (some d)) → H' d = some (exd d fs) → (∀ b, b ≠ d → b ≠ a → H' b = H b) → D.nx σ H') : tInit K ((f, i) :: r) D σ H := by
  unfold extF at ex
  split at ex
  · rename_i y hy
    refine ⟨y, sy i y hy, _, s0, a, C, rfl, T, hno _ List.mem_cons_self, .inl ⟨ea, fun d nd ne => ?_⟩⟩
    refine init_old T (d := d) (fun z hz => hno z (List.mem_cons_of_mem _ hz)) upd_same (by rw [upd_ne ne]; exact upd_same) ne (by simp only [List.length_cons, List.length_nil]; omega) s0 sy ex fun H' e1 e2 e3 => ?_
    refine q d H' nd ne e1 e2 fun b hb hb2 => ?_
    rw [e3 b hb, upd_ne hb2, upd_ne hb]
  · cases ex
end
/-- its promise -/
def spI (C : Addr) (fl : List (Str × Nat)) (np : Nat) : Sp := fun vs H Q _ => ∃ a ys fs, vs = .ref a :: ys ∧ ys.length = np ∧ H a = some (exo a C none) ∧ extF ys [] fl = some fs ∧
  ∀ d H', H d = none → d ≠ a → H' a = some (exo a C (some d)) → H' d = some (exd d fs) → (∀ b, b ≠ d → b ≠ a → H' b = H b) → Q .non H'
theorem init_ok {P : Program} {w : World} {K : PySem.W.Frag} {mg : Str → Option Value} {base : Heap} {CX : CXT} {x qual : Str} {params : Arguments} {body : List Stmt} {scope : Scope} {f C : Addr} {fd : FuncData} {N ps : List Str} {k : Nat} {fl : List (Str × Nat)} {np : Nat}
    (F : FunD K x qual params body scope [] [] f fd) (S : FnScope N ps scope) (T : OexC K C) (hn : ps.length = np + 1) (hne : fl ≠ []) (hl : fl.length ≤ 800) (hno : ∀ q ∈ fl, PySem.W.findIn K (.ref C) q.1 = some none) (hc : chkInit N scope fl body = true) :
    FnOk P w K mg base CX (k + 1) f fd ps (spI C fl np) := by
  refine F.ok S (fun vs H Q E h => ?_) fun cdv A outer s H vs Q E hr h => ?_
  · obtain ⟨a, ys, fs, e1, e2, _⟩ := h
    rw [e1, List.length_cons, e2, hn]
  · refine ⟨_, pss_init rfl rfl hc, ?_⟩
    obtain ⟨a, ys, fs, e1, e2, ea, ex, q⟩ := h
    subst e1
    match fl, hne, hl, hno, ex, hc with
    | (g, i) :: r, _, hl, hno, ex, hc =>
      refine init_new (ys := ys) T hno ea (by simp only [List.length_cons] at hl; omega) rfl (fun i y hy => ?_) ex q
      unfold L2.start
      have hi : i < ys.length := (List.getElem?_eq_some_iff.mp hy).1
      rw [List.getElem?_append_left (by simp; omega)]
      simp [hy]
end Z
end

section
/-! ZJc: defs where nothing is being shown (no guard on the stack); methods, makers of such. -/
namespace Z
open PySem PySem.Spec PyProof.Rows L2
/-- room for k calls within each other, each one deeper, and for what errors' makers need -/
structure RoomZ (k : Nat) (A : Around) : Prop where
  hd : A.handled = none
  dp : A.depth + k + 95 < recursionLimit
  un : A.units + 16 * k + 680 < cLine
theorem RoomZ.mono {j k : Nat} {A : Around} (r : RoomZ k A) (h : j ≤ k) : RoomZ j A := ⟨r.hd, by have := r.dp; omega, by have := r.un; omega⟩
theorem RoomZ.deeper {k : Nat} {A : Around} (r : RoomZ (k + 1) A) (env : Env) : RoomZ k (A.deeper env) :=
  ⟨r.hd, by have := r.dp; show A.depth + 1 + k + 95 < _; omega, by have := r.un; show A.units + 3 + 16 * k + 680 < _; omega⟩
theorem RoomZ.make {k : Nat} {A : Around} (r : RoomZ (k + 1) A) (C : Addr) (us : List Value) (kw : List (Str × Value)) : RoomZ k (A.under (.builtin "type.__call__" ⟨.ref C :: us, kw⟩)) :=
  ⟨r.hd, by have := r.dp; rw [make_depth]; omega, by have := r.un; rw [make_units]; omega⟩
theorem RoomZ.depth {k : Nat} {A : Around} (r : RoomZ k A) : A.depth < recursionLimit := by have := r.dp; omega
theorem RoomZ.room {j k : Nat} {A : Around} (r : RoomZ k A) (h : j ≤ 30) : Room j A := ⟨r.hd, by have := r.dp; omega, by have := r.un; omega⟩
structure FnG (P : Program) (w : World) (K : PySem.W.Frag) (mg : Str → Option Value) (base : Heap) (CX : CXT) (k : Nat) (f : Addr) (fd : FuncData) (ps : List Str) (sp : Sp) : Prop where
  len : ∀ vs H Q E, sp vs H Q E → vs.length = ps.length
  run : ∀ (A : Around) (outer : List Env) (s : Shared) (H : Hp) (args : Args) (us : List Value) (vs : List V) (Q : VK) (E : XK), RoomZ k A → A.guards = some [] → Env0 P w K mg base A outer s H → BindsTo s fd args (ps.zip us) → Vals vs us → sp vs H Q E →
    codeAny (model P w) A (.call (.ref f) args) (L2.CR CX outer P w H s Q E) s
theorem FnG.mono {P : Program} {w : World} {K : PySem.W.Frag} {mg : Str → Option Value} {base : Heap} {CX : CXT} {j k : Nat} {f : Addr} {fd : FuncData} {ps : List Str} {sp : Sp} (F : FnG P w K mg base CX j f fd ps sp) (h : j ≤ k) :
    FnG P w K mg base CX k f fd ps sp := ⟨F.len, fun A outer s H args us vs Q E hr => F.run A outer s H args us vs Q E (hr.mono h)⟩
theorem guards_deeper {A : Around} {env : Env} : (A.deeper env).guards = A.guards := by
  first | rfl | simp [Around.deeper]
theorem guards_make {A : Around} {C : Addr} {us : List Value} {kw : List (Str × Value)} : (A.under (.builtin "type.__call__" ⟨.ref C :: us, kw⟩)).guards = A.guards := by
  first | rfl | simp [Around.under, Code.guards, Code.isGuard, guardIds, pushGuards]
section
variable {P : Program} {w : World} {K : PySem.W.Frag} {mg : Str → Option Value} {base : Heap} {x qual : Str} {params : Arguments} {body : List Stmt} {scope : Scope} {dvs : List V} {kws : List (Str × V)} {f : Addr} {fd : FuncData}
theorem fund_okG {CX : CXT} {N ps : List Str} {k : Nat} {sp : Sp} (F : FunD K x qual params body scope dvs kws f fd) (S : FnScope N ps scope) (len : ∀ vs H Q E, sp vs H Q E → vs.length = ps.length)
    (hbody : ∀ (cdv : Value) (A : Around) (outer : List Env) (s : Shared) (H : Hp) (vs : List V) (Q : VK) (E : XK), RoomZ k (A.deeper (envOfC qual scope s.heap.objs.size f cdv)) → A.guards = some [] → sp vs H Q E →
      ∃ t, PSs (cxOf CX P w K mg base N qual scope f cdv A outer s H E) body t ∧ t { nx := fun _ H' => Q .non H', rt := Q } (start N vs) H) : FnG P w K mg base CX (k + 1) f fd ps sp := by
  obtain ⟨oc, od, dV, kV, doc, pm, an, cdv, ct, osl, rfl, lk, hcd, _, _⟩ := F.ex
  refine ⟨len, fun A outer s H args us vs Q E hr hgd e0 hb r hsp => ?_⟩
  have hl := len _ _ _ _ hsp
  have KX : K.In s.heap := e0.mod.kin.keeps fun b o e => (e0.bs b o e).1
  have lim : s.heap.NoLimit := e0.mod.nolimit.keeps fun b o e => (e0.bs b o e).1
  have hkind : ∀ y ∈ ps.zip us, scope.names.lookup y.1 = some .local ∨ (scope.names.lookup y.1 = some .cell ∧ ((cellsFrom (s.heap.objs.size + 1) scope.names []).lookup y.1).isSome = true) := fun ⟨n, v⟩ hy => by
    rcases S.par n (List.of_mem_zip hy).1 with q | q
    · exact .inl q
    · exact .inr ⟨q, PySem.W.cellsFrom_some _ _ _ (.inl q)⟩
  refine codeAny_call_function hr.depth (KX _ _ lk) rfl S.co S.gen rfl (PySem.W.codeRec_of KX hcd) (hb _ _ _ _ ?_)
  refine wpAny_newFunctionEnv_cells S.kind hkind fun env he s1 x => ?_
  subst he
  refine ⟨lim.keeps x.toInCall.keep, codeAny_func ?_⟩
  obtain ⟨t, ht, hq⟩ := hbody cdv A outer s H vs Q E (hr.deeper _) hgd hsp
  have I : Inv (cxOf CX P w K mg base N qual scope f cdv A outer s H E) [] (start N vs) H s1 := inv_start S hr.hd e0 hl r x
  refine wpAny_mono (ht.run [] s1 (start N vs) H _ I hq) (fun fl s' hs => ?_) fun e s' hs => hs
  have fin : ∀ {σ' : L2.St} {H' : Hp} {v : V} {u : Value}, Inv (cxOf CX P w K mg base N qual scope f cdv A outer s H E) [] σ' H' s' → RelV v u → Q v H' → CE outer P w H s Q u s' :=
    fun {σ' H' v u} J rv q => ⟨v, H', J.os, J.bare, J.base, J.hok, rv, q⟩
  cases fl with
  | ret u =>
    obtain ⟨v, σ', H', J, rv, q⟩ := hs
    exact fin J rv q
  | next =>
    obtain ⟨σ', H', J, q⟩ := hs
    exact fin (v := V.non) (u := Value.none) J rfl q
  | brk =>
    obtain ⟨_, _, _, q⟩ := hs
    exact False.elim q
  | cont =>
    obtain ⟨_, _, _, q⟩ := hs
    exact False.elim q
/-- the same within an except suite -/
theorem fund_okH {CX : CXT} {N ps : List Str} {k : Nat} {sp : Sp} (F : FunD K x qual params body scope dvs kws f fd) (S : FnScope N ps scope) (len : ∀ vs H Q E, sp vs H Q E → vs.length = ps.length)
    (hbody : ∀ (cdv : Value) (A : Around) (outer : List Env) (s : Shared) (H : Hp) (vs : List V) (Q : VK) (E : XK) (p : Addr × Obj), L2H.Hot1 A p → L2H.RoomH k (A.deeper (envOfC qual scope s.heap.objs.size f cdv)) → sp vs H Q E →
      ∃ t, PSs (L2H.cxH CX P w K mg base N qual scope f cdv A outer s H E p) body t ∧ t { nx := fun _ H' => Q .non H', rt := Q } (start N vs) H) : L2H.FnH P w K mg base CX (k + 1) f fd ps sp := by
  obtain ⟨oc, od, dV, kV, doc, pm, an, cdv, ct, osl, rfl, lk, hcd, _, _⟩ := F.ex
  exact L2H.fn_ofH lk hcd S len fun A outer s H vs Q E p hot hr hsp => hbody cdv A outer s H vs Q E p hot hr hsp
end
section
variable {X : Cx} {CX : CXT} {k : Nat} {f C : Addr} {fd : FuncData} {ps : List Str} {sp : Sp} {E : L2.St → XK} {x m : Str} {p pos apos : Pos} {o : Expr} {es : List Expr} {t : TA} {ta : TE}
theorem run_fnG {pins : List (Addr × Obj)} {σ : L2.St} {H : Hp} {s : Shared} {Q : VK} {us : List Value} {vs : List V} (F : FnG X.prog X.w X.K X.mg X.base CX k f fd ps sp) (hr : RoomZ k X.A) (hgd : X.A.guards = some []) (hb : Binds X.K fd ps []) (hx : PassesAt CX X σ (E σ))
    (I : Inv X pins σ H s) (r : Vals vs us) (h : sp vs H Q (E σ)) : wpAny (model X.prog X.w) X.A (call (.ref f) us) (EP X pins σ Q) X.xe s := by
  have hl : us.length = ps.length := by rw [← r.length]; exact F.len _ _ _ _ h
  have b := hb s us I.kIn (by rw [List.append_nil]; exact hl)
  rw [List.append_nil] at b
  refine wpAny_call (codeAny_mono (F.run X.A X.stack s H ⟨us, []⟩ us vs Q (E σ) hr hgd I.env0 b r h) fun r s' hq => ?_)
  cases r with
  | error e => exact hx pins H s e s' I hq
  | ok fl =>
    cases fl with
    | ret u => exact I.after hq
    | next => exact False.elim hq
    | brk => exact False.elim hq
    | cont => exact False.elim hq
def tCallG (sp : Sp) (E : L2.St → XK) (t : TA) : TE := fun σ H Q => t σ H fun vs H1 => sp vs H1 Q (E σ)
theorem pe_callG {e : Expr} (F : FnG X.prog X.w X.K X.mg X.base CX k f fd ps sp) (hr : RoomZ k X.A) (hgd : X.A.guards = some []) (hg : Gl X x) (hm : X.mg x = some (.ref f)) (hk : PySem.W.keepIn X.K (.ref f) = true) (hb : Binds X.K fd ps []) (hx : ∀ σ, PassesAt CX X σ (E σ))
    (ha : PA X (e :: es) t) (hdb : (x == ("__debug__" : Str)) = false) (he : starEach (e :: es) X.env = (false, eval e X.env) :: starEach es X.env) (hpl : (backTo pos (starEach es X.env)).any (·.1) = false) :
    PE X (.Call (.Name x p) (e :: es) [] pos) (tCallG sp E t) := by
  refine ⟨fun pins s σ H Q I h => ?_⟩
  refine wpAny_Call_Name_kw (ld_glob I hg hm ?_ hdb)
  refine PySem.W.callWith_K (h₀ := X.base) I.ok.mod.kin hk (thn (ha.run pos pins s σ H _ I h) fun us s1 ⟨vs, H1, I1, r, q⟩ => ⟨I1.kIn, ?_⟩) he hpl
  exact run_fnG F hr hgd hb (hx σ) I1 r q
theorem pe_callG0 (F : FnG X.prog X.w X.K X.mg X.base CX k f fd ps sp) (hr : RoomZ k X.A) (hgd : X.A.guards = some []) (hg : Gl X x) (hm : X.mg x = some (.ref f)) (hk : PySem.W.keepIn X.K (.ref f) = true) (hb : Binds X.K fd ps []) (hx : ∀ σ, PassesAt CX X σ (E σ))
    (hdb : (x == ("__debug__" : Str)) = false) : PE X (.Call (.Name x p) [] [] pos) (tCallG sp E tNil) := by
  refine ⟨fun pins s σ H Q I h => ?_⟩
  refine wpAny_Call_Name_kw (ld_glob I hg hm ?_ hdb)
  exact PySem.W.callWith_K0 I.kIn hk (run_fnG (us := []) F hr hgd hb (hx σ) I .nil h)
/-! ### methods -/
theorem mtree {xs : List Expr} {cpos : Pos} {env : Env} (hb : attributeBase o m env (eval o env) = eval o env) (hfew : ((backTo cpos (starEach xs env)).all (fun x => !x.1) && (backToKw cpos (keywordEach [] env)).all (fun x => x.1.isSome)
      && decide (xs.length + ([] : List Keyword).length + (if ([] : List Keyword).isEmpty then 0 else 1) < 30)) = true) (hline : (apos.endLine == cpos.line) = true) :
    eval (.Call (.Attribute o m apos) xs [] cpos) env = (do
      let ov ← eval o env
      standAt apos.atName
      let (f, first) ← holding [ov] (getMethod ov m (do return (← importBound o env).getD true))
      callWith cpos f first (backTo cpos (starEach xs env)) (backToKw cpos (keywordEach [] env))) := by
  rw [arm_eval_Call, hb]
  have hform : methodCallForm (xs.length + ([] : List Keyword).length) (backTo cpos (starEach xs env)) (backToKw cpos (keywordEach [] env)) = true := hfew
  have hpos : methodCallPos true o env apos cpos = pure cpos := by unfold methodCallPos; simp [hline]
  unfold methodCall
  rw [hform, hpos]
  simp only [calleeOf, if_true, pure_bind]
def tMethG (C : Addr) (m : Str) (sp : Sp) (E : L2.St → XK) (ta : TE) (t : TA) : TE := fun σ H Q => ta σ H fun x H1 => ∃ a dx fs, x = .ref a ∧ H1 a = some (.ins C dx fs) ∧ fs.lookup m = none ∧ t σ H1 fun vs H2 => sp (x :: vs) H2 Q (E σ)
theorem pe_methG {e : Expr} (he : PE X o ta) (c : Cls X.K C) (hm : Meth X.K C m f) (F : FnG X.prog X.w X.K X.mg X.base CX k f fd ps sp) (hr : RoomZ k X.A) (hgd : X.A.guards = some []) (hb : Binds X.K fd ps []) (hx : ∀ σ, PassesAt CX X σ (E σ)) (ha : PA X (e :: es) t)
    (hst : starEach (e :: es) X.env = (false, eval e X.env) :: starEach es X.env) (hpl : (backTo pos (starEach es X.env)).any (·.1) = false)
    (ht : eval (.Call (.Attribute o m apos) (e :: es) [] pos) X.env = (do
      let ov ← eval o X.env
      standAt apos.atName
      let (f, first) ← holding [ov] (getMethod ov m (do return (← importBound o X.env).getD true))
      callWith pos f first (backTo pos (starEach (e :: es) X.env)) (backToKw pos (keywordEach [] X.env)))) :
    PE X (.Call (.Attribute o m apos) (e :: es) [] pos) (tMethG C m sp E ta t) := by
  refine ⟨fun pins s σ H Q I h => ?_⟩
  refine PySem.W.methodCall_KW (thn (he.run pins s σ H _ I h) fun u s1 ⟨x, H1, I1, rx, a, dx, fs, ex, ea, l, q⟩ => ?_) ht
  subst ex
  obtain rfl : u = Value.ref a := rx
  refine getmeth_ok I1 ea c hm l ?_
  refine PySem.W.callWith_K (first := [.ref a]) (h₀ := X.base) I.ok.mod.kin hm.kp (thn (ha.run pos pins s1 σ H1 _ I1 q) fun us s2 ⟨vs, H2, I2, r, q2⟩ => ⟨I2.kIn, ?_⟩) hst hpl
  exact run_fnG (us := .ref a :: us) (vs := .ref a :: vs) F hr hgd hb (hx σ) I2 (.cons rfl r) q2
theorem pe_methG0 (he : PE X o ta) (c : Cls X.K C) (hm : Meth X.K C m f) (F : FnG X.prog X.w X.K X.mg X.base CX k f fd ps sp) (hr : RoomZ k X.A) (hgd : X.A.guards = some []) (hb : Binds X.K fd ps []) (hx : ∀ σ, PassesAt CX X σ (E σ))
    (ht : eval (.Call (.Attribute o m apos) [] [] pos) X.env = (do
      let ov ← eval o X.env
      standAt apos.atName
      let (f, first) ← holding [ov] (getMethod ov m (do return (← importBound o X.env).getD true))
      callWith pos f first (backTo pos (starEach [] X.env)) (backToKw pos (keywordEach [] X.env)))) :
    PE X (.Call (.Attribute o m apos) [] [] pos) (tMethG C m sp E ta tNil) := by
  refine ⟨fun pins s σ H Q I h => ?_⟩
  refine PySem.W.methodCall_KW (thn (he.run pins s σ H _ I h) fun u s1 ⟨x, H1, I1, rx, a, dx, fs, ex, ea, l, q⟩ => ?_) ht
  subst ex
  obtain rfl : u = Value.ref a := rx
  refine getmeth_ok I1 ea c hm l ?_
  exact PySem.W.callWith_K0 (first := [.ref a]) I1.kIn hm.kp (run_fnG (us := [.ref a]) (vs := [.ref a]) F hr hgd hb (hx σ) I1 (.cons rfl .nil) q)
/-! ### makers -/
theorem run_makeG {pins : List (Addr × Obj)} {σ : L2.St} {H : Hp} {s : Shared} {Q : VK} {us : List Value} {vs : List V} (M : Mk X.K C f) (F : FnG X.prog X.w X.K X.mg X.base CX k f fd ps sp) (hr : RoomZ (k + 1) X.A) (hgd : X.A.guards = some []) (hb : Binds X.K fd ps [])
    (hx : PassesAt CX X σ (E σ)) (I : Inv X pins σ H s) (r : Vals vs us)
    (h : ∀ x dx, H x = none → H dx = none → dx ≠ x → sp (.ref x :: vs) (upd (upd H dx (.own x)) x (.ins C dx [])) (fun v H2 => v = .non ∧ Q (.ref x) H2) (E σ)) :
    wpAny (model X.prog X.w) X.A (call (.ref C) us) (EP X pins σ Q) X.xe s := by
  have hq := h (s.heap.objs.size + 1) s.heap.objs.size (I.hok.fresh (Nat.le_succ _)) (I.hok.fresh (Nat.le_refl _)) (Nat.ne_of_lt (Nat.lt_succ_self _))
  have I2 := Inv.made (C := C) I
  have r2 : Vals (V.ref (s.heap.objs.size + 1) :: vs) (Value.ref (s.heap.objs.size + 1) :: us) := .cons rfl r
  have hl : (Value.ref (s.heap.objs.size + 1) :: us).length = ps.length := by
    have e := r2.length
    rw [F.len _ _ _ _ hq] at e
    exact e.symm
  have b := hb _ (Value.ref (s.heap.objs.size + 1) :: us) I2.kIn (by rw [List.append_nil]; exact hl)
  rw [List.append_nil] at b
  refine wpAny_call (make_map (f := f) I.kIn M.makes M.init (beq_iff_eq.mp M.fn) (codeAny_mono (F.run _ X.stack _ _ ⟨Value.ref (s.heap.objs.size + 1) :: us, []⟩ (Value.ref (s.heap.objs.size + 1) :: us) _ _ (E σ) (hr.make C us []) (by rw [guards_make]; exact hgd)
    (I2.env0.make C us []) b r2 hq) fun r s' hq' => ?_))
  cases r with
  | error e => exact hx pins _ _ e s' I2 hq'
  | ok fl =>
    cases fl with
    | ret u =>
      obtain ⟨v, H', I3, rv, ev, q3⟩ := I2.after hq'
      subst ev
      exact ⟨rv, ⟨V.ref (s.heap.objs.size + 1), H', I3, rfl, q3⟩⟩
    | next => exact False.elim hq'
    | brk => exact False.elim hq'
    | cont => exact False.elim hq'
def tMakeG (C : Addr) (sp : Sp) (E : L2.St → XK) (t : TA) : TE := fun σ H Q => t σ H fun vs H1 => ∀ x dx, H1 x = none → H1 dx = none → dx ≠ x →
  sp (.ref x :: vs) (upd (upd H1 dx (.own x)) x (.ins C dx [])) (fun v H2 => v = .non ∧ Q (.ref x) H2) (E σ)
theorem pe_makeG {e : Expr} (M : Mk X.K C f) (F : FnG X.prog X.w X.K X.mg X.base CX k f fd ps sp) (hr : RoomZ (k + 1) X.A) (hgd : X.A.guards = some []) (hg : Gl X x) (hm : X.mg x = some (.ref C)) (hb : Binds X.K fd ps []) (hx : ∀ σ, PassesAt CX X σ (E σ))
    (ha : PA X (e :: es) t) (hdb : (x == ("__debug__" : Str)) = false) (he : starEach (e :: es) X.env = (false, eval e X.env) :: starEach es X.env) (hpl : (backTo pos (starEach es X.env)).any (·.1) = false) :
    PE X (.Call (.Name x p) (e :: es) [] pos) (tMakeG C sp E t) := by
  refine ⟨fun pins s σ H Q I h => ?_⟩
  refine wpAny_Call_Name_kw (ld_glob I hg hm ?_ hdb)
  refine PySem.W.callWith_K (h₀ := X.base) I.ok.mod.kin M.kp (thn (ha.run pos pins s σ H _ I h) fun us s1 ⟨vs, H1, I1, r, q⟩ => ⟨I1.kIn, ?_⟩) he hpl
  exact run_makeG M F hr hgd hb (hx σ) I1 r q
theorem pe_makeG0 (M : Mk X.K C f) (F : FnG X.prog X.w X.K X.mg X.base CX k f fd ps sp) (hr : RoomZ (k + 1) X.A) (hgd : X.A.guards = some []) (hg : Gl X x) (hm : X.mg x = some (.ref C)) (hb : Binds X.K fd ps []) (hx : ∀ σ, PassesAt CX X σ (E σ))
    (hdb : (x == ("__debug__" : Str)) = false) : PE X (.Call (.Name x p) [] [] pos) (tMakeG C sp E tNil) := by
  refine ⟨fun pins s σ H Q I h => ?_⟩
  refine wpAny_Call_Name_kw (ld_glob I hg hm ?_ hdb)
  exact PySem.W.callWith_K0 I.kIn M.kp (run_makeG (us := []) M F hr hgd hb (hx σ) I .nil h)
end
end Z
end

section
/-! ZK: shapes of the text, targets, what is walked. -/
namespace Z
open PySem PySem.Spec PyProof.Rows L2
/-! ### shapes -/
theorem noSet {e : Expr} (h : isSet e = false) (op : CmpOp) : behindInMarks op e = false := by
  cases e <;> simp [isSet] at h <;> simp [behindInMarks]
theorem noFold {e : Expr} (h : isSet e = false) (env : Env) : ∀ x, foldedSetIterable e env x = pure x := by
  intro x
  cases e <;> simp [isSet] at h <;> rfl
theorem star_each {e : Expr} {es : List Expr} {env : Env} (h : isStar e = false) : starEach (e :: es) env = (false, eval e env) :: starEach es env := by
  cases e <;> simp [isStar] at h <;> rfl
theorem star_plain {env : Env} {pos : Pos} : ∀ {es : List Expr}, (es.all fun e => !isStar e) = true → (backTo pos (starEach es env)).any (·.1) = false
  | [], _ => by simp [starEach, backTo]
  | e :: es, h => by
    simp only [List.all_cons, Bool.and_eq_true, Bool.not_eq_true'] at h
    rw [star_each h.1]
    show (false || (backTo pos (starEach es env)).any (·.1)) = false
    rw [star_plain h.2]; rfl
theorem chkEs_star {g : SC} : ∀ {ms : List ME} {es : List Expr}, chkEs g ms es = true → (es.all fun e => !isStar e) = true
  | [], es, h => by
    simp only [chkEs, List.isEmpty_iff] at h
    subst h; rfl
  | m :: ms, [], h => by simp [chkEs] at h
  | m :: ms, e :: es, h => by
    simp only [chkEs, Bool.and_eq_true] at h
    simp only [List.all_cons, Bool.and_eq_true]
    exact ⟨h.1.1, chkEs_star h.2⟩
theorem chkEs_len {g : SC} : ∀ {ms : List ME} {es : List Expr}, chkEs g ms es = true → ms.length = es.length
  | [], es, h => by
    simp only [chkEs, List.isEmpty_iff] at h
    subst h; rfl
  | m :: ms, [], h => by simp [chkEs] at h
  | m :: ms, e :: es, h => by
    simp only [chkEs, Bool.and_eq_true] at h
    simp [chkEs_len h.2]
theorem asg_each {e : Expr} {es : List Expr} {env : Env} (h : isStar e = false) : assignEach (e :: es) env = (false, assign e env) :: assignEach es env := by
  cases e <;> simp [isStar] at h <;> rfl
theorem chkGs_star {g : SC} : ∀ {ms : List MG} {es : List Expr}, chkGs g ms es = true → (es.all fun e => !isStar e) = true ∧ ms.length = es.length
  | [], es, h => by
    simp only [chkGs, List.isEmpty_iff] at h
    subst h; exact ⟨rfl, rfl⟩
  | m :: ms, [], h => by simp [chkGs] at h
  | m :: ms, e :: es, h => by
    simp only [chkGs, Bool.and_eq_true] at h
    obtain ⟨h1, h2⟩ := chkGs_star h.2
    simp only [List.all_cons, Bool.and_eq_true]
    exact ⟨⟨h.1.2, h1⟩, by simp [h2]⟩
theorem asg_len {env : Env} : ∀ {es : List Expr}, (es.all fun e => !isStar e) = true → (assignEach es env).length = es.length ∧ (assignEach es env).findIdx? (·.1) = none
  | [], _ => by simp [assignEach]
  | e :: es, h => by
    simp only [List.all_cons, Bool.and_eq_true, Bool.not_eq_true'] at h
    rw [asg_each h.1]
    obtain ⟨h1, h2⟩ := asg_len (env := env) h.2
    exact ⟨by simp [h1], by simp [List.findIdx?_cons, h2]⟩
theorem noSwap {e : Expr} {t : Option Expr} {l : Nat} {env : Env} (h : isComp e = false) : swapsWith e t l env = pure false := by
  cases e <;> simp [isComp] at h <;> rfl
theorem plainIx {e : Expr} (h : isSlice e = false) : PlainIx e := by
  intro o i
  cases e <;> simp [isSlice] at h <;> rfl
theorem plain_true {e : Expr} {env : Env} (h : plainT e = true) (whole : PySem.Sem Value) : isTrue e env whole = (do let v ← whole; standAt e.pos; holding [v] (truthy v)) := by
  cases e <;> simp [plainT] at h <;> try rfl
  rename_i op x pos
  cases op <;> simp at h <;> rfl

theorem takesN {X : Cx} : L2N.Takes X fun _ _ _ _ => False := fun _ _ x => by
  obtain ⟨_, _, _, _, _, _, _, _, _, _, _, _, _, _, _, _, z⟩ := x
  exact z.elim
/-! ### the context of a body -/
def allBI : List BI := [.len, .abs, .int, .list, .sum, .all, .any, .repr, .str, .max, .min, .sorted, .tuple]
theorem allBI_all (b : BI) : b ∈ allBI := by cases b <;> decide
def allTy : List Ty := [.int, .bool, .str, .list, .tuple]
theorem allTy_all (b : Ty) : b ∈ allTy := by cases b <;> decide
def frees : List Str := rangeN :: "isinstance" :: "enumerate" :: "dict" :: (allBI.map biName ++ allTy.map tyName)
theorem mem_frees_bi (b : BI) : biName b ∈ frees := by
  unfold frees
  exact List.mem_cons_of_mem _ (List.mem_cons_of_mem _ (List.mem_cons_of_mem _ (List.mem_cons_of_mem _ (List.mem_append_left _ (List.mem_map.mpr ⟨b, allBI_all b, rfl⟩)))))
theorem mem_frees_ty (t : Ty) : tyName t ∈ frees := by
  unfold frees
  exact List.mem_cons_of_mem _ (List.mem_cons_of_mem _ (List.mem_cons_of_mem _ (List.mem_cons_of_mem _ (List.mem_append_right _ (List.mem_map.mpr ⟨t, allTy_all t, rfl⟩)))))
/-- what stands of an error class -/
structure EOk (X : Cx) (T : Tab) (M : Nm) (S : Sem) (k : Nat) (c : Nat) (ei : EI) : Prop where
  adr : X.mg ei.name = some (.ref (M.ead c))
  xf : XfC X.K (M.ead c)
  ec : ExcC X.K (M.ead c)
  no : ∀ q ∈ ei.fl, PySem.W.findIn X.K (.ref (M.ead c)) (M.fnm q.1) = some none
  sub : ∀ (c' : Nat) (ei' : EI), T.errs[c']? = some ei' → PySem.W.exmOne X.K (.ref (M.ead c)) (.ref (M.ead c')) = some (S.sub c c') ∧ PySem.W.kitOne X.K (.ref (M.ead c)) (.ref (M.ead c')) = some (S.sub c c')
  xin : S.xin c = some (ei.np, ei.fl)
  make : (ei.fl = [] ∧ ei.np = 0 ∧ PySem.W.excIn X.K (M.ead c) He.veBase "ValueError.__new__" = true ∧ PySem.W.keepIn X.K (.ref (M.ead c)) = true ∧ Raises X (.ref (M.ead c))) ∨
    (0 < ei.np ∧ ei.np ≤ 100 ∧ OexC X.K (M.ead c) ∧ ∃ fI fd ps j, j + 1 ≤ 30 ∧ PySem.W.findIn X.K (.ref (M.ead c)) "__init__" = some (some (.ref fI)) ∧ PySem.W.typeIn X.K (.ref fI) = some (.type "function") ∧
      FnOk X.prog X.w X.K X.mg X.base (L2N.CX X.prog X.w) j fI fd ps (spI (M.ead c) (ei.fl.map fun q => (M.fnm q.1, q.2)) ei.np) ∧ Binds X.K fd ps [])
/-- the error that the clause around names -/
def CurOk (X : Cx) (M : Nm) (exn : Option Nat) : Prop := match exn with
  | none => M.cur = none
  | some i => ∃ (X0 : Cx) (a : Addr) (oe : Obj) (cls : Value) (d : Option Addr) (pn : List (Addr × Obj)), X = X0.suite a ((a, oe) :: pn) ∧ M.cur = some (i, a, cls, d) ∧ Zc cls d oe ∧ ∃ vs, oe.data = .fields vs
/-- what stands of a class -/
structure COk (X : Cx) (M : Nm) (S : Sem) (k : Nat) (c : Nat) (ci : CI) : Prop where
  adr : X.mg ci.name = some (.ref (M.cad c))
  cl : Cls X.K (M.cad c)
  no : ∀ f ∈ ci.fields, NoAttr X.K (M.cad c) (M.fnm f)
  meth : ∀ (m : Str) (f n : Nat), (m, f, n) ∈ ci.meths → ∃ (a : Addr) (fd : FuncData) (ps : List Str), Meth X.K (M.cad c) m a ∧ FnG X.prog X.w X.K X.mg X.base (L2N.CX X.prog X.w) k a fd ps (spOf M X.K (S.cal f) n) ∧ Binds X.K fd ps []
  make : ∀ (f n : Nat), (("__init__" : Str), f, n) ∈ ci.meths → ∃ (a : Addr) (fd : FuncData) (ps : List Str) (j : Nat), j + 1 ≤ k ∧ Mk X.K (M.cad c) a ∧ FnG X.prog X.w X.K X.mg X.base (L2N.CX X.prog X.w) j a fd ps (spOf M X.K (S.cal1 f) n) ∧ Binds X.K fd ps []
/-- a module's dict, its values -/
def DtOk (K : PySem.W.Frag) (w : World) (a : Addr) (kvs : List (Sg × PV)) : Prop := ∃ es n, KDict K w a es n ∧ ∀ q ∈ kvs, ∃ u v, PySem.W.nsIn K a (mkS q.1) = some (some u) ∧ L2.RelV v u ∧ RP K (fun _ => none) q.2 v
structure Cok (X : Cx) (g : SC) (M : Nm) (S : Sem) (W : WX) (k : Nat) : Prop where
  N : X.N = g.N
  sc : X.env.scope = g.sc
  fn : ∀ x, g.fn x = true → X.fn x = true
  nd : X.N.Nodup
  calm : g.hot = false → X.calm = true
  hr : g.hot = false → RoomZ k X.A
  hrH : g.hot = true → L2H.RoomH 30 X.A
  hotc : g.hot = true → L2H.HotC X
  un : room2 X
  gd : g.hot = false → X.A.guards = some []
  gdx : g.exn.isSome = true → X.A.guards = some []
  tab : ∀ (i : Nat) (x : Str), g.T.tabs[i]? = some x → ∃ (ps : List Sg) (a : Addr), S.tab i = some ps ∧ X.mg x = some (.ref a) ∧ (∀ H, SqT X.K H a ((ps.map mkS).map V.str)) ∧ (∃ o, X.K.lookup a = some o ∧ o.cls = .type "tuple" ∧ o.dict = none) ∧ ∀ p ∈ ps, okS p = true
  dtab : ∀ (i : Nat) (x : Str), g.T.dtabs[i]? = some x → ∃ (kvs : List (Sg × PV)) (a : Addr), S.dtab i = some kvs ∧ X.mg x = some (.ref a) ∧ DtOk X.K X.w a kvs
  fr : ∀ x ∈ frees, X.mg x = none
  glb : ∀ (i : Nat) (x : Str) (p : PV), g.T.glbs[i]? = some x → S.glb i = some p → ∃ u v, X.mg x = some u ∧ L2.RelV v u ∧ flat p = true ∧ RP X.K (fun _ => none) p v
  callsH : ∀ (f : Nat) (x : Str) (n : Nat), g.T.defs[f]? = some (some x, n) → g.T.hots.contains f = true → ∃ (a : Addr) (fd : FuncData) (ps : List Str), L2H.FnH X.prog X.w X.K X.mg X.base (L2N.CX X.prog X.w) 30 a fd ps (spOf M X.K (S.cal f) n) ∧ X.mg x = some (.ref a) ∧
    PySem.W.keepIn X.K (.ref a) = true ∧ Binds X.K fd ps []
  calls : g.hot = false → ∀ (f : Nat) (x : Str) (n : Nat), g.T.defs[f]? = some (some x, n) → ∃ (a : Addr) (fd : FuncData) (ps : List Str), FnG X.prog X.w X.K X.mg X.base (L2N.CX X.prog X.w) k a fd ps (spOf M X.K (S.cal f) n) ∧ X.mg x = some (.ref a) ∧
    PySem.W.keepIn X.K (.ref a) = true ∧ Binds X.K fd ps []
  errs : ∀ (c : Nat) (ei : EI), g.T.errs[c]? = some ei → EOk X g.T M S k c ei
  cls : ∀ (c : Nat) (ci : CI), g.T.cls[c]? = some ci → COk X M S k c ci
  nf : S.nf ≤ g.T.fnames.length
  xerr : ∀ (c : Nat), S.xin c ≠ none → ∃ ei, g.T.errs[c]? = some ei
  finj : ∀ f f', M.fnm f = M.fnm f' → f = f'
  fname : ∀ (f : Nat) (x : Str), g.T.fnames[f]? = some x → M.fnm f = x
  cur : CurOk X M g.exn
  cold : g.hot = false → g.exn = none
  stk : g.top = true → X.stack = X.env :: X.outer
  frm : g.top = true → X.env.frame = some X.env.locals
  takes : L2N.Takes X W
  pass : PassesOwn (model X.prog X.w) X.A X.env X.xe
section
variable {X : Cx} {g : SC} {M : Nm} {S : Sem} {W : WX} {k : Nat}
theorem Cok.en (C : Cok X g M S W k) : X.mg "enumerate" = none := C.fr _ (by unfold frees; simp)
theorem Cok.dct (C : Cok X g M S W k) : X.mg "dict" = none := C.fr _ (by unfold frees; simp)
theorem Cok.bi (C : Cok X g M S W k) (b : BI) : X.mg (biName b) = none := C.fr _ (mem_frees_bi b)
theorem Cok.bt (C : Cok X g M S W k) (t : Ty) : X.mg (tyName t) = none := C.fr _ (mem_frees_ty t)
theorem Cok.br (C : Cok X g M S W k) : X.mg rangeN = none := C.fr _ (by unfold frees; exact List.mem_cons_self)
theorem Cok.bis (C : Cok X g M S W k) : X.mg "isinstance" = none := C.fr _ (by unfold frees; exact List.mem_cons_of_mem _ List.mem_cons_self)
theorem Cok.gl (C : Cok X g M S W k) {x : Str} (h : gl? g x = true) : Gl X x ∧ (x == ("__debug__" : Str)) = false := by
  simp only [gl?, Bool.and_eq_true, decide_eq_true_eq, Bool.not_eq_true'] at h
  exact ⟨show X.env.scope.names.lookup x = _ by rw [C.sc]; exact h.1, h.2⟩
theorem Cok.vis (C : Cok X g M S W k) {x : Str} (h : vis? g x = true) : Vis X.env.scope x ∧ (x == ("__debug__" : Str)) = false ∧ (x == ("__classdict__" : Str)) = false := by
  simp only [vis?, Bool.and_eq_true, Bool.not_eq_true'] at h
  refine ⟨?_, h.1.2, h.2⟩
  have h1 := h.1.1
  unfold Vis
  rw [C.sc]
  split at h1
  · exact .inl (by assumption)
  · exact .inr (.inl (by assumption))
  · exact .inr (.inr (by assumption))
  · cases h1
theorem Cok.loc (C : Cok X g M S W k) {x : Str} (h : loc? g x = true) : L2.Loc X.env.scope x ∧ (X.fn x = true ∨ X.env.scope.names.lookup x = some .local) := by
  unfold loc? at h
  unfold L2.Loc
  rw [C.sc]
  split at h
  · exact ⟨.inl (by assumption), .inr (by assumption)⟩
  · exact ⟨.inr (by assumption), .inl (C.fn x h)⟩
  · cases h

/-! ### targets -/
theorem wipe_get (σ : L2.St) (i : Nat) : ∀ vs : List Nat, (wipe σ vs)[i]? = if i ∈ vs then (if i < σ.length then some none else none) else σ[i]?
  | [] => by simp [wipe]
  | v :: vs => by
    have ih := wipe_get σ i vs
    unfold wipe
    by_cases hv : v = i
    · subst hv
      rw [if_pos List.mem_cons_self]
      by_cases hl : v < σ.length
      · rw [if_pos hl, List.getElem?_set_self (by rw [wipe_length]; exact hl)]
      · rw [if_neg hl, List.getElem?_eq_none (by rw [List.length_set, wipe_length]; omega)]
    · rw [List.getElem?_set_ne hv, ih]
      have : (i ∈ v :: vs) ↔ i ∈ vs := by
        rw [List.mem_cons]
        exact ⟨fun h => h.elim (fun e => absurd e.symm hv) (fun x => x), .inr⟩
      by_cases hm : i ∈ vs
      · rw [if_pos hm, if_pos (this.mpr hm)]
      · rw [if_neg hm, if_neg (fun h => hm (this.mp h))]
theorem wipe_eq {σ τ : L2.St} {vs : List Nat} (hl : σ.length = τ.length) (h : ∀ i, i ∉ vs → σ[i]? = τ[i]?) : wipe σ vs = wipe τ vs := by
  apply List.ext_getElem?
  intro i
  rw [wipe_get, wipe_get, hl]
  split
  · rfl
  · exact h i (by assumption)
theorem wipe_set {σ : L2.St} {i : Nat} {x : Option V} {vs : List Nat} (h : i ∈ vs) : wipe (σ.set i x) vs = wipe σ vs :=
  wipe_eq (by simp) fun j hj => List.getElem?_set_ne fun e : i = j => hj (by rw [← e]; exact h)
theorem wipe_wipe {σ : L2.St} {vs : List Nat} : wipe (wipe σ vs) vs = wipe σ vs :=
  wipe_eq (wipe_length σ vs) fun i hi => by rw [wipe_get, if_neg hi]
theorem wipeL_get (φ : Slots) (i : Nat) : ∀ vs : List Nat, (wipeL φ vs)[i]? = if i ∈ vs then (if i < φ.length then some none else none) else φ[i]?
  | [] => by simp [wipeL]
  | v :: vs => by
    have ih := wipeL_get φ i vs
    have wl : ∀ vs : List Nat, (wipeL φ vs).length = φ.length := by
      intro vs
      induction vs with
      | nil => rfl
      | cons v vs ih => unfold wipeL; rw [List.length_set, ih]
    unfold wipeL
    by_cases hv : v = i
    · subst hv
      rw [if_pos List.mem_cons_self]
      by_cases hl : v < φ.length
      · rw [if_pos hl, List.getElem?_set_self (by rw [wl]; exact hl)]
      · rw [if_neg hl, List.getElem?_eq_none (by rw [List.length_set, wl]; omega)]
    · rw [List.getElem?_set_ne hv, ih]
      have : (i ∈ v :: vs) ↔ i ∈ vs := by
        rw [List.mem_cons]
        exact ⟨fun h => h.elim (fun e => absurd e.symm hv) (fun x => x), .inr⟩
      by_cases hm : i ∈ vs
      · rw [if_pos hm, if_pos (this.mpr hm)]
      · rw [if_neg hm, if_neg (fun h => hm (this.mp h))]
theorem wipeL_length (φ : Slots) : ∀ vs : List Nat, (wipeL φ vs).length = φ.length
  | [] => rfl
  | v :: vs => by unfold wipeL; rw [List.length_set, wipeL_length φ vs]
theorem SL.wipe {K : PySem.W.Frag} {F : Hp} {ρ : List Addr} {σ : L2.St} {φ : Slots} (h : SL M K F ρ σ φ) (vs : List Nat) : SL M K F ρ (wipe σ vs) (wipeL φ vs) := by
  refine ⟨by rw [wipe_length, wipeL_length]; exact h.1, fun i x hx => ?_⟩
  rw [wipeL_get] at hx
  rw [wipe_get]
  split at hx
  · split at hx
    · cases hx
    · cases hx
  · rename_i hm
    rw [if_neg hm]
    exact h.2 i x hx
def Ownly (is : List Nat) (σ σ' : L2.St) : Prop := ∀ vs : List Nat, (∀ i ∈ is, i ∈ vs) → wipe σ' vs = wipe σ vs
def RdG (M : Nm) (K : PySem.W.Frag) (t : TG) (m : MG) : Prop := ∀ x v φ φ' σ F ρ H st Q, HR' M K F ρ H st → SL M K F ρ σ φ → RL K F ρ x v → asgG m x φ = some φ' → (∀ σ', SL M K F ρ σ' φ' → Ownly (slotsG m) σ σ' → Q σ' H) → t v σ H Q
def RdGs (M : Nm) (K : PySem.W.Frag) (t : TGs) (m : List MG) : Prop := ∀ xs vs φ φ' σ F ρ H st Q, HR' M K F ρ H st → SL M K F ρ σ φ → RLs K F ρ xs vs → asgGs m xs φ = some φ' → (∀ σ', SL M K F ρ σ' φ' → Ownly (slotsGs m) σ σ' → Q σ' H) → t vs σ H Q
theorem pg_or {tg : Expr} {t t' : TG} (h : PG X tg t) (h' : PG X tg t') : PG X tg (fun v σ H Q => t v σ H Q ∨ t' v σ H Q) := ⟨fun pins s σ H v u Q I r q => by
  rcases q with q | q
  · exact h.run pins s σ H v u Q I r q
  · exact h'.run pins s σ H v u Q I r q⟩
mutual
theorem tgt (C : Cok X g M S W k) : ∀ (m : MG) (e : Expr), chkG g m e = true → ∃ t, PG X e t ∧ RdG M X.K t m
  | .nm i, e, h => by
    cases e <;> simp only [chkG, Bool.and_eq_true, decide_eq_true_eq, reduceCtorEq] at h
    obtain ⟨hl, hf⟩ := C.loc h.2
    refine ⟨_, pg_name (i := i) C.nd (by rw [C.N]; exact h.1) hl hf, ?_⟩
    intro x v φ φ' σ F ρ H st Q hh hs r e q
    simp only [asgG, Option.some.injEq] at e
    subst e
    exact q _ (hs.set i r) fun vs hv => wipe_set (hv i (by simp [slotsG]))
  | .tp ms, e, h => by
    cases e <;> simp only [chkG, Bool.and_eq_true, Bool.not_eq_true', Bool.false_eq_true] at h
    rename_i es kk pos
    obtain ⟨hhot, h⟩ := h
    obtain ⟨t, ht, hr⟩ := tgts C ms es h
    obtain ⟨h1, h2⟩ := chkGs_star h
    obtain ⟨l1, l2⟩ := asg_len (env := X.env) h1
    refine ⟨_, pg_or (pg_tup (C.calm hhot) ht rfl l2) (pg_lst (C.calm hhot) ht rfl l2), ?_⟩
    intro x v φ φ' σ F ρ H st Q hh hs r e q
    have len : ∀ (ms : List MG) (xs : List LV) (φ φ' : Slots), asgGs ms xs φ = some φ' → xs.length = ms.length := by
      intro ms
      induction ms with
      | nil => intro xs φ φ' e; cases xs <;> simp [asgGs] at e ⊢
      | cons m ms ih =>
        intro xs φ φ' e
        cases xs with
        | nil => simp [asgGs] at e
        | cons x xs =>
          unfold asgGs at e
          split at e
          · simp [ih _ _ _ e]
          · cases e
    have go : ∀ (xs : List LV) (vs : List V), RLs X.K F ρ xs vs → asgGs ms xs φ = some φ' → vs.length = (assignEach es X.env).length ∧ t vs σ H Q := fun xs vs rl e => by
      refine ⟨by rw [l1, ← rl.length, len _ _ _ _ e, h2], ?_⟩
      exact hr xs vs φ φ' σ F ρ H st Q hh hs rl e fun σ1 h1 h2 => q σ1 h1 (by simpa only [slotsG] using h2)
    cases x with
    | ref n => simp [asgG] at e
    | exn _ => simp [asgG] at e
    | tup xs =>
      simp only [asgG] at e
      simp only [RL] at r
      obtain ⟨a, vs, e1, e2, e3⟩ := r
      obtain ⟨g1, g2⟩ := go xs vs e3 e
      exact .inl ⟨a, vs, e1, .inl (.inl (hh.sub _ _ e2)), g1, g2⟩
    | pv p =>
      cases p <;> simp only [asgG, reduceCtorEq] at e
      · simp only [RL, RP] at r
        obtain ⟨a, vs, e1, e2, e3⟩ := r
        obtain ⟨g1, g2⟩ := go _ vs (RLs_pv.mpr e3) e
        exact .inl ⟨a, vs, e1, .inl (.inl (hh.sub _ _ e2)), g1, g2⟩
      · simp only [RL, RP] at r
        obtain ⟨a, vs, e1, e2, e3⟩ := r
        obtain ⟨g1, g2⟩ := go _ vs (RLs_pv.mpr e3) e
        exact .inr ⟨a, vs, e1, .inl (.inl (hh.sub _ _ e2)), g1, g2⟩
theorem tgts (C : Cok X g M S W k) : ∀ (ms : List MG) (es : List Expr), chkGs g ms es = true → ∃ t, PGs X es t ∧ RdGs M X.K t ms
  | [], es, h => by
    simp only [chkGs, List.isEmpty_iff] at h
    subst h
    refine ⟨_, pgs_nil, ?_⟩
    intro xs vs φ φ' σ F ρ H st Q hh hs r e q
    cases xs with
    | nil =>
      simp only [asgGs, Option.some.injEq] at e
      subst e
      simp only [RLs] at r
      exact ⟨r, q σ hs fun _ _ => rfl⟩
    | cons _ _ => simp [asgGs] at e
  | m :: ms, [], h => by simp [chkGs] at h
  | m :: ms, e :: es, h => by
    simp only [chkGs, Bool.and_eq_true, Bool.not_eq_true'] at h
    obtain ⟨t, ht, hr⟩ := tgt C m e h.1.1
    obtain ⟨t', ht', hr'⟩ := tgts C ms es h.2
    refine ⟨_, pgs_cons ht ht' (by rw [asg_each h.1.2]; rfl), ?_⟩
    intro xs vs φ φ' σ F ρ H st Q hh hs r e q
    cases xs with
    | nil => simp [asgGs] at e
    | cons x xs =>
      simp only [RLs] at r
      obtain ⟨v, r', e1, e2, e3⟩ := r
      unfold asgGs at e
      split at e
      · rename_i φ1 e4
        refine ⟨v, r', e1, hr x v φ φ1 σ F ρ H st _ hh hs e2 e4 fun σ1 hs1 o1 => ?_⟩
        exact hr' xs r' φ1 φ' σ1 F ρ H st Q hh hs1 e3 e fun σ2 hs2 o2 => q σ2 hs2 fun us hu => by
          rw [o2 us fun i hi => hu i (by simp [slotsGs, hi]), o1 us fun i hi => hu i (by simp [slotsGs, hi])]
      · cases e
end
end
end Z
end

section
/-! ZL: lists of expressions, what is walked. -/
namespace Z
open PySem PySem.Spec PyProof.Rows L2
section
variable (X : Cx) (M : Nm) (S : Sem) (W : WX)
def SE (m : ME) (e : Expr) : Prop := ∃ t, PE X e t ∧ RdE M X.K W t (evE S m)
def ST (m : MT) (e : Expr) : Prop := ∃ t, PT X e t ∧ RdT M X.K W t (evT S m)
def SEs : List ME → List Expr → Prop
  | [], es => es = []
  | m :: ms, es => ∃ e r, es = e :: r ∧ isStar e = false ∧ SE X M S W m e ∧ SEs ms r
def STs : List MT → List Expr → Prop
  | [], es => es = []
  | m :: ms, es => ∃ e r, es = e :: r ∧ ST X M S W m e ∧ STs ms r
end
section
variable {X : Cx} {M : Nm} {S : Sem} {W : WX}
theorem SEs.pa : ∀ {ms : List ME} {es : List Expr}, SEs X M S W ms es → ∃ t, PA X es t ∧ RdA M X.K W t (evEs S ms)
  | [], es, h => by
    have h' : es = [] := h
    subst h'
    refine ⟨_, pa_nil, ?_⟩
    intro σ H Q φ F ρ st r hh hs e p
    simp only [evEs, Option.some.injEq] at e
    subst e
    exact p F ρ H [] (G.refl F ρ H) hh (by simp only [RLs])
  | m :: ms, es, h => by
    obtain ⟨e, r, h1, h2, ⟨t, h3, h4⟩, h5⟩ := h
    subst h1
    obtain ⟨t', h6, h7⟩ := SEs.pa h5
    refine ⟨_, pa_cons h3 h6 (star_each h2), ?_⟩
    intro σ H Q φ F ρ st res hh hs e p
    simp only [evEs] at e
    refine h4.bindA hh hs e p fun x st1 F1 ρ1 H1 v e1 g1 h1 r1 p1 => ?_
    refine h7.bindA h1 (hs.g g1) e1 p1 fun xs st2 F2 ρ2 H2 vs e2 g2 h2 r2 p2 => ?_
    simp only [Option.some.injEq] at e2
    subst e2
    exact p2 F2 ρ2 H2 (v :: vs) (G.refl F2 ρ2 H2) h2 (by
      simp only [RLs]
      exact ⟨v, vs, rfl, RL.mono g2.sub g2.pre _ _ r1, r2⟩)
theorem SEs.star : ∀ {ms : List ME} {es : List Expr}, SEs X M S W ms es → (es.all fun e => !isStar e) = true
  | [], es, h => by
    have h' : es = [] := h
    subst h'; rfl
  | m :: ms, es, h => by
    obtain ⟨e, r, h1, h2, _, h5⟩ := h
    subst h1
    simp [h2, SEs.star h5]
theorem SEs.len : ∀ {ms : List ME} {es : List Expr}, SEs X M S W ms es → ms.length = es.length
  | [], es, h => by
    have h' : es = [] := h
    subst h'; rfl
  | m :: ms, es, h => by
    obtain ⟨e, r, h1, h2, _, h5⟩ := h
    subst h1
    simp [SEs.len h5]
end

/-! ### what is walked -/
/-- an iterator over trees that lie in F -/
structure ItOk (K : PySem.W.Frag) (J : It) (xs : List PV) (F : Hp) : Prop where
  at_ : ∀ (i : Nat) (p : PV) (F' H' : Hp), xs[i]? = some p → Sub F F' → Sub F' H' → J.go i H' ∧ ∀ x H'', J.yld i H' x H'' → (H'' = H' ∧ RP K F' p x) ∨ ∃ T o, H' T = none ∧ H'' = upd H' T o ∧ RP K (upd F' T o) p x
  stop : ∀ F' H', Sub F F' → Sub F' H' → J.stop xs.length H'
def iSeq (K : PySem.W.Frag) (tl : TE) : TI := fun σ H R => tl σ H fun x H1 => ∃ a, x = .ref a ∧ (((∃ xs, SqL K H1 a xs) ∧ R (Itl K a) H1) ∨ ((∃ xs, SqT K H1 a xs) ∧ R (Itt K a) H1))
section
variable {X : Cx} {tg : Expr}
theorem pi_seq {l : Expr} {tl : TE} (hl : PE X l tl) : PI X tg l (iSeq X.K tl) := by
  refine ⟨fun pins s σ H R I h => ?_⟩
  refine thn (hl.run pins s σ H _ I h) fun v s1 ⟨x, H1, I1, r1, q1⟩ => ?_
  obtain ⟨a, e, q⟩ := q1
  subst e
  cases r1
  rcases q with ⟨⟨xs, hq⟩, q⟩ | ⟨⟨xs, hq⟩, q⟩
  · obtain ⟨its, rv, p, hz⟩ := I1.list hq
    refine wpAny_pyIter_list p.isList ?_
    refine ⟨s1.heap.objs.size, [s1.heap.objs.size], _, _, H1, rfl, I1.kept (t' := s1.toks) fun b o e => Heap.get?_push_of_some _ e, turn_list a _, ⟨_, Heap.get?_push_size _ rfl, rfl, rfl⟩, fun b hb => ?_, q⟩
    have e : b = s1.heap.objs.size := by simpa using hb
    subst e
    exact I1.fpOk (Nat.le_refl _) (I1.hok.fresh (Nat.le_refl _))
  · obtain ⟨its, rv, p, hz⟩ := I1.tuple hq
    refine wpAny_pyIter_tuple (show s1.heap.IsTuple a its.toArray from p) ?_
    refine ⟨s1.heap.objs.size, [s1.heap.objs.size], _, _, H1, rfl, I1.kept (t' := s1.toks) fun b o e => Heap.get?_push_of_some _ e, turn_tuple a _, ⟨_, Heap.get?_push_size _ rfl, rfl, rfl⟩, fun b hb => ?_, q⟩
    have e : b = s1.heap.objs.size := by simpa using hb
    subst e
    exact I1.fpOk (Nat.le_refl _) (I1.hok.fresh (Nat.le_refl _))
end
section
variable {K : PySem.W.Frag} {F F' H H' : Hp}
theorem it_list {a : Addr} {vs : List V} {xs : List PV} (h : F a = some (.lst vs)) (r : RPs K F xs vs) : ItOk K (Itl K a) xs F := by
  refine ⟨fun i p F' H' e s s' => ?_, fun F' H' s s' => ⟨vs, .inl (.inl (s' _ _ (s _ _ h))), by rw [r.length]; exact Nat.le_refl _⟩⟩
  have hq : SqL K H' a vs := .inl (.inl (s' _ _ (s _ _ h)))
  obtain ⟨v, e1, e2⟩ := r.get e
  refine ⟨⟨vs, v, hq, e1⟩, fun x H'' y => .inl ⟨y.1, ?_⟩⟩
  have := y.2 vs hq
  rw [e1] at this
  cases this
  exact RP.mono s _ _ e2
theorem it_tup {a : Addr} {vs : List V} {xs : List PV} (h : F a = some (.tup vs)) (r : RPs K F xs vs) : ItOk K (Itt K a) xs F := by
  refine ⟨fun i p F' H' e s s' => ?_, fun F' H' s s' => ⟨vs, .inl (.inl (s' _ _ (s _ _ h))), by rw [r.length]; exact Nat.le_refl _⟩⟩
  have hq : SqT K H' a vs := .inl (.inl (s' _ _ (s _ _ h)))
  obtain ⟨v, e1, e2⟩ := r.get e
  refine ⟨⟨vs, v, hq, e1⟩, fun x H'' y => .inl ⟨y.1, ?_⟩⟩
  have := y.2 vs hq
  rw [e1] at this
  cases this
  exact RP.mono s _ _ e2
theorem upto_len (lo : Int) : ∀ n, (upto lo n).length = n
  | 0 => rfl
  | n + 1 => by simp [upto, upto_len]
theorem upto_get (lo : Int) : ∀ (n i : Nat), i < n → (upto lo n)[i]? = some (lo + i)
  | 0, i, h => absurd h (Nat.not_lt_zero i)
  | n + 1, 0, _ => by simp [upto]
  | n + 1, i + 1, h => by
    rw [upto, List.getElem?_cons_succ, upto_get (lo + 1) n i (by omega)]
    congr 1
    omega
theorem downto_len (lo : Int) : ∀ n, (downto lo n).length = n
  | 0 => rfl
  | n + 1 => by simp [downto, downto_len]
theorem downto_get (lo : Int) : ∀ (n i : Nat), i < n → (downto lo n)[i]? = some (lo + (i : Int) * (-1))
  | 0, i, h => absurd h (Nat.not_lt_zero i)
  | n + 1, 0, _ => by simp [downto]
  | n + 1, i + 1, h => by
    rw [downto, List.getElem?_cons_succ, downto_get (lo - 1) n i (by omega)]
    congr 1
    omega
theorem pi_or {X : Cx} {tg e : Expr} {w w' : TI} (h : PI X tg e w) (h' : PI X tg e w') : PI X tg e (fun σ H R => w σ H R ∨ w' σ H R) := ⟨fun pins s σ H R I q => q.elim (h.run pins s σ H R I) (h'.run pins s σ H R I)⟩
theorem it_str {x : Sg} (ok : okS x = true) : ItOk K (Its (mkS x)) (x.map fun c => .str [c]) F := by
  refine ⟨fun i p F' H' h _ _ => ?_, fun F' H' _ _ => ?_⟩
  · rw [List.getElem?_map, Option.map_eq_some_iff] at h
    obtain ⟨c, h1, h2⟩ := h
    subst h2
    have hi := (List.getElem?_eq_some_iff.mp h1).1
    refine ⟨by show i < x.toArray.size; simpa using hi, fun v H'' y => ?_⟩
    obtain ⟨e1, d, e2, e3⟩ := y
    have e2' : x.toArray[i]? = some d := e2
    rw [List.getElem?_toArray, h1] at e2'
    cases e2'
    refine .inl ⟨e1, ?_⟩
    simp only [RP]
    refine ⟨e3, ?_⟩
    have := List.all_eq_true.mp ok c (List.mem_of_getElem? h1)
    simpa [okS] using this
  · show x.toArray.size ≤ _
    simp
theorem it_range (lo : Int) (n : Nat) : ItOk K (Itr lo n) ((upto lo n).map .int) F := by
  refine ⟨fun i p F' H' e s s' => ?_, fun F' H' s s' => by show n ≤ _; rw [List.length_map, upto_len]; exact Nat.le_refl _⟩
  have hi : i < n := by
    have := (List.getElem?_eq_some_iff.mp e).1
    rwa [List.length_map, upto_len] at this
  refine ⟨hi, fun x H'' y => .inl ⟨y.1, ?_⟩⟩
  rw [List.getElem?_map, upto_get lo n i hi] at e
  simp only [Option.map_some, Option.some.injEq] at e
  subst e
  simp only [RP]
  exact y.2
theorem it_down (lo : Int) (n : Nat) : ItOk K (Itc lo (-1) n) ((downto lo n).map .int) F := by
  refine ⟨fun i p F' H' e s s' => ?_, fun F' H' s s' => by show n ≤ _; rw [List.length_map, downto_len]; exact Nat.le_refl _⟩
  have hi : i < n := by
    have := (List.getElem?_eq_some_iff.mp e).1
    rwa [List.length_map, downto_len] at this
  refine ⟨hi, fun x H'' y => .inl ⟨y.1, ?_⟩⟩
  rw [List.getElem?_map, downto_get lo n i hi] at e
  simp only [Option.map_some, Option.some.injEq] at e
  subst e
  simp only [RP]
  exact y.2
end
/-! ### enumerate of a list, of a text -/
section
variable {K : PySem.W.Frag} {F F' H H' : Hp}
theorem numbered_get : ∀ (xs : List PV) (k i : Nat) (p : PV), (numbered k xs)[i]? = some p → ∃ x, xs[i]? = some x ∧ p = .tup [.int ((k + i : Nat) : Int), x]
  | [], _, _, _, h => by simp [numbered] at h
  | x :: xs, k, 0, p, h => by
    simp only [numbered, List.getElem?_cons_zero, Option.some.injEq] at h
    exact ⟨x, rfl, h.symm⟩
  | x :: xs, k, i + 1, p, h => by
    simp only [numbered, List.getElem?_cons_succ] at h
    obtain ⟨y, h1, h2⟩ := numbered_get xs (k + 1) i p h
    exact ⟨y, by simpa using h1, by rw [h2, show k + 1 + i = k + (i + 1) by omega]⟩
theorem numbered_len : ∀ (xs : List PV) (k : Nat), (numbered k xs).length = xs.length
  | [], _ => rfl
  | x :: xs, k => by simp [numbered, numbered_len xs (k + 1)]
theorem it_enum {a : Addr} {vs : List V} {xs : List PV} (h : F a = some (.lst vs)) (r : RPs K F xs vs) : ItOk K (Ite K a) (numbered 0 xs) F := by
  refine ⟨fun i p F' H' e s s' => ?_, fun F' H' s s' => ⟨vs, .inl (.inl (s' _ _ (s _ _ h))), by rw [numbered_len, r.length]; exact Nat.le_refl _⟩⟩
  have hq : SqL K H' a vs := .inl (.inl (s' _ _ (s _ _ h)))
  obtain ⟨x, ex, ep⟩ := numbered_get xs 0 i p e
  obtain ⟨v, e1, e2⟩ := r.get ex
  refine ⟨⟨vs, v, hq, e1⟩, fun y H'' yl => .inr ?_⟩
  obtain ⟨T, z, ey, hT, eH, hz⟩ := yl
  have := hz vs hq
  rw [e1] at this
  cases this
  refine ⟨T, _, hT, eH, ?_⟩
  subst ep ey
  have nF : F' T = none := by
    cases q : F' T with
    | none => rfl
    | some u => rw [s' _ _ q] at hT; cases hT
  simp only [RP, RPs]
  refine ⟨T, _, rfl, upd_same, _, _, rfl, by rw [Nat.zero_add], v, [], rfl, ?_, rfl⟩
  exact RP.mono (s.trans (sub_upd nF)) _ _ e2
/-- the signs of a text, each in a new pair -/
def Itn (x : Str) : It :=
  ⟨fun i _ => i < x.cps.size, fun i H v H' => ∃ T c, v = .ref T ∧ H T = none ∧ x.cps[i]? = some c ∧ H' = upd H T (.tup [.int (i : Nat), .str ⟨#[c]⟩]), fun i _ => x.cps.size ≤ i⟩
theorem turn_enumS {P : Program} {w : World} {K : PySem.W.Frag} {elts : List Expr} {kk : Nat} {tpos : Pos} (e it : Addr) (x : Str) (t : Tok) (ty : String) (hty : ty = "str_ascii_iterator" ∨ ty = "str_iterator") :
    Turn P w K (.Tuple elts kk tpos) (Itn x) [e, it] e (fun i h => (∃ old, IsEnum h e it ((i : Nat) : Int) old) ∧ h.IsStrIter it ty x t i ∧ e ≠ it) where
  mem := by simp
  obj := fun i h st b hb => by
    obtain ⟨⟨old, he⟩, ⟨o, ho, hc, hd⟩, _⟩ := st
    have e' : b = e ∨ b = it := by simpa using hb
    rcases e' with z | z
    · rw [z]; exact ⟨_, he, fun v q => nomatch q⟩
    · rw [z]; exact ⟨o, ho, fun v q => by rw [hd] at q; cases q⟩
  keep := fun i h h' st k => let ⟨⟨old, he⟩, ⟨o, ho, r⟩, hne⟩ := st; ⟨⟨old, k e (by simp) _ he⟩, ⟨o, k it (by simp) o ho, r⟩, hne⟩
  item := by
    intro X hP hw hK hc i pins s σ H E I hf st hg
    subst hP hw hK
    obtain ⟨⟨old, he⟩, hit, hne⟩ := st
    have D : Draws X.prog X.w X.A.in1 it [it] x.cps.size (fun i v => ∃ c u, x.cps[i]? = some c ∧ v = .str ⟨#[c]⟩ u) (fun i h => h.IsStrIter it ty x t i) := by
      rcases hty with q | q
      · rw [q]; exact Draws.strAscii (A := X.A.in1) (I.ok.hd hc) it x t
      · rw [q]; exact Draws.strWide (A := X.A.in1) (I.ok.hd hc) it x t
    have hel : e < s.heap.objs.size := Heap.lt_size he
    have hil : it < s.heap.objs.size := by obtain ⟨_, q, _⟩ := hit; exact Heap.lt_size q
    refine wpAny_pyNext_enum_itemD D he hit hg hne (by simpa using hne) fun y h' tk hy ho hit' hT hsz hk => ?_
    obtain ⟨c, u, hcx, rfl⟩ := hy
    refine ⟨_, rfl, wpAny_letOwnedTupleGo_enum (s := { s with heap := h', toks := tk + 1 }) ho fun h'' he' sb => ?_⟩
    have hT2 : h''.get? s.heap.objs.size = some { cls := .type "tuple", data := .seq #[.int i tk, .str ⟨#[c]⟩ u] } := (sb.2 _ (Nat.ne_of_gt hel)).trans hT
    have new : ObjOk X.prog X.w (upd H s.heap.objs.size (.tup [.int (i : Nat), .str ⟨#[c]⟩])) h'' s.heap.objs.size (.tup [.int (i : Nat), .str ⟨#[c]⟩]) :=
      ⟨by show 2 ≤ sizeLine; decide, [.int i tk, .str ⟨#[c]⟩ u], .cons ⟨_, rfl⟩ (.cons ⟨_, rfl⟩ .nil), ⟨_, hT2, rfl, _, rfl⟩⟩
    have I1 : Inv X pins σ (upd H s.heap.objs.size (.tup [.int (i : Nat), .str ⟨#[c]⟩])) { s with heap := h'', toks := tk + 1 } :=
      I.turnedNew (ch := [e, it]) (fun b ob hb q => (sb.2 b (fun z => hb (by simp [z]))).trans (hk b ob (fun z => hb (by simp [z])) (fun z => hb (by simp [z])) q)) hf (Nat.le_refl _) new
    refine ⟨.ref s.heap.objs.size, _, I1, rfl, ⟨_, c, rfl, I.hok.fresh (Nat.le_refl _), hcx, rfl⟩, ⟨⟨.str ⟨#[c]⟩ u, ?_⟩, ?_, hne⟩, fun b hb => ?_⟩
    · have e1 : ((i + 1 : Nat) : Int) = (i : Int) + 1 := by omega
      rw [e1]; exact he'
    · obtain ⟨o, ho', r⟩ := hit'
      exact ⟨o, (sb.2 it (Ne.symm hne)).trans ho', r⟩
    · have hb' : b < s.heap.objs.size := by
        have e' : b = e ∨ b = it := by simpa using hb
        rcases e' with z | z
        · rw [z]; exact hel
        · rw [z]; exact hil
      rw [upd_ne (Nat.ne_of_lt hb')]
      exact (hf b hb).1
  done := by
    intro X hP hw hK hc i pins s σ H E I hf st hg
    subst hP hw hK
    obtain ⟨⟨old, he⟩, hit, hne⟩ := st
    have D : Draws X.prog X.w X.A.in1 it [it] i (fun _ _ => True) (fun j h => j = i ∧ h.IsStrIter it ty x t i) := by
      have hgi : x.cps[i]? = none := Array.getElem?_eq_none hg
      refine ⟨fun _ _ st => let ⟨_, o, ho, _⟩ := st; ⟨o, ho⟩, fun _ _ _ st hk => let ⟨ej, o, ho, r⟩ := st; ⟨ej, o, hk it (by simp) o ho, r⟩, fun j s Q E hi st hQ => ?_, fun s Q E st hE => ?_⟩
      · have := st.1
        omega
      · rcases hty with q | q
        · rw [q] at st; exact wpAny_nextOf_ascii_end (A := X.A.in1) (I.ok.hd hc) st.2 hgi hE
        · rw [q] at st; exact wpAny_nextOf_wide_end (A := X.A.in1) (I.ok.hd hc) st.2 hgi hE
    obtain ⟨f0, f1, f2, f3, f4, f5⟩ := hf it (by simp)
    exact wpAny_pyNext_enum_endD D he ⟨rfl, hit⟩ fun h' eb => ⟨rfl, I.turned (t' := s.toks) (fun b o hb q => eb b o hb q) f0 f1 f3 f4 f5⟩
  self := fun A i s Q E st h => let ⟨⟨_, he⟩, _⟩ := st; wpAny_pyIter_enum he h
def iEnumS (ta : TA) : TI := fun σ H R => ta σ H fun vs H1 => ∃ x, vs = [.str x] ∧ R (Itn x) H1
theorem pi_enumS {X : Cx} {e : Expr} {ta : TA} {p pos tpos : Pos} {elts : List Expr} {kk : Nat} (hg : Gl X "enumerate") (hm : X.mg "enumerate" = none) (ha : PA X [e] ta) (hs : starEach [e] X.env = [(false, eval e X.env)] := by rfl) :
    PI X (.Tuple elts kk tpos) (.Call (.Name "enumerate" p) [e] [] pos) (iEnumS ta) := by
  refine ⟨fun pins s σ H R I h => ?_⟩
  refine Call_ (ld_blt I hg hm boot_enumerate (PyProof.Rows.callWith_type1 (thn (ha.run pos pins s σ H _ I h) fun us s1 ⟨vs, H1, I1, r1, q1⟩ => ?_) hs rfl))
  obtain ⟨x, ex, q⟩ := q1
  subst ex
  cases r1 with
  | cons r rr =>
    cases rr
    obtain ⟨t, rfl⟩ := r
    refine call_enumerate_str fun h' he hit hsz hk => wpAny_pyIter_enum he ?_
    have I2 : Inv X pins σ H1 { s1 with heap := h' } := I1.kept (t' := s1.toks) hk
    have ht : strIterType x = "str_ascii_iterator" ∨ strIterType x = "str_iterator" := by unfold strIterType; split <;> simp
    refine ⟨s1.heap.objs.size + 1, [s1.heap.objs.size + 1, s1.heap.objs.size], _, _, H1, rfl, I2, turn_enumS (s1.heap.objs.size + 1) s1.heap.objs.size x t (strIterType x) ht, ⟨⟨.none, he⟩, hit, Nat.succ_ne_self _⟩, fun b hb => ?_, q⟩
    have e' : b = s1.heap.objs.size + 1 ∨ b = s1.heap.objs.size := by simpa using hb
    have hle : s1.heap.objs.size ≤ b := by
      rcases e' with z | z
      · rw [z]; exact Nat.le_add_right _ _
      · rw [z]; exact Nat.le_refl _
    exact I1.fpOk hle (I1.hok.fresh hle)
theorem it_enumS {x : Sg} (ok : okS x = true) : ItOk K (Itn (mkS x)) (numbered 0 (x.map fun c => .str [c])) F := by
  refine ⟨fun i p F' H' e s s' => ?_, fun F' H' _ _ => ?_⟩
  · obtain ⟨y, ey, ep⟩ := numbered_get _ 0 i p e
    rw [List.getElem?_map, Option.map_eq_some_iff] at ey
    obtain ⟨c, h1, h2⟩ := ey
    subst h2
    have hi := (List.getElem?_eq_some_iff.mp h1).1
    refine ⟨by show i < x.toArray.size; simpa using hi, fun v H'' yl => .inr ?_⟩
    obtain ⟨T, d, ev, hT, e2, eH⟩ := yl
    have e2' : x.toArray[i]? = some d := e2
    rw [List.getElem?_toArray, h1] at e2'
    cases e2'
    refine ⟨T, _, hT, eH, ?_⟩
    subst ep ev
    simp only [RP, RPs]
    refine ⟨T, _, rfl, upd_same, _, _, rfl, by rw [Nat.zero_add], _, [], rfl, ⟨rfl, ?_⟩, rfl⟩
    have := List.all_eq_true.mp ok c (List.mem_of_getElem? h1)
    simpa [okS] using this
  · show x.toArray.size ≤ _
    rw [numbered_len]
    simp
end
/-- the reading of an iterable -/
def RdI (M : Nm) (K : PySem.W.Frag) (W : WX) (S : Sem) (wi : TI) (ik : IK) (src : List ME) : Prop := ∀ σ H R φ F ρ st, HR' M K F ρ H st → SL M K F ρ σ φ →
  (∀ vs st1 ps xs, evEs S src φ st = some (.ok vs st1) → unpv vs = some ps → items ik ps = some xs → (∀ F1 ρ1 H1 J, G F ρ H F1 ρ1 H1 → HR' M K F1 ρ1 H1 st1 → ItOk K J xs F1 → R J H1) → wi σ H R) ∧
  (∀ e st1, evEs S src φ st = some (.ex e st1) → (∀ F' ρ' H' cls d, G F ρ H F' ρ' H' → HR' M K F' ρ' H' st1 → RX M K F' H' e cls d → W cls d σ H') → wi σ H R)
theorem rangeOk_ok {i : Int} (h : rangeOk i = true) : -(2 ^ 62) ≤ i ∧ i < 2 ^ 62 := by
  simpa [rangeOk] using h
section
variable {X : Cx} {g : SC} {M : Nm} {S : Sem} {W : WX} {k : Nat}
theorem one_ok {m : ME} {φ : Slots} {st st1 : Store} {vs : List LV} (e : evEs S [m] φ st = some (.ok vs st1)) : ∃ v, vs = [v] ∧ evE S m φ st = some (.ok v st1) := by
  simp only [evEs] at e
  cases q : evE S m φ st with
  | none => rw [q] at e; cases e
  | some r =>
    rw [q] at e
    cases r with
    | ok v st2 =>
      simp only [R.bs, Rs.bs, Option.some.injEq, ERs.ok.injEq] at e
      obtain ⟨e1, e2⟩ := e
      subst e1 e2
      exact ⟨v, rfl, rfl⟩
    | ex x st2 => simp [R.bs] at e
theorem one_ex {m : ME} {φ : Slots} {st st1 : Store} {x : Ex} (e : evEs S [m] φ st = some (.ex x st1)) : evE S m φ st = some (.ex x st1) := by
  simp only [evEs] at e
  cases q : evE S m φ st with
  | none => rw [q] at e; cases e
  | some r =>
    rw [q] at e
    cases r with
    | ok v st2 => simp [R.bs, Rs.bs] at e
    | ex y st2 =>
      simp only [R.bs, Option.some.injEq, ERs.ex.injEq] at e
      obtain ⟨e1, e2⟩ := e
      subst e1 e2
      rfl
theorem evEs_len : ∀ {ms : List ME} {φ : Slots} {st st1 : Store} {vs : List LV}, evEs S ms φ st = some (.ok vs st1) → vs.length = ms.length
  | [], φ, st, st1, vs, e => by
    simp only [evEs, Option.some.injEq, ERs.ok.injEq] at e
    rw [← e.1]; rfl
  | m :: ms, φ, st, st1, vs, e => by
    simp only [evEs] at e
    cases q : evE S m φ st with
    | none => rw [q] at e; cases e
    | some r =>
      rw [q] at e
      cases r with
      | ex x st2 => simp [R.bs] at e
      | ok v st2 =>
        simp only [R.bs] at e
        cases q2 : evEs S ms φ st2 with
        | none => rw [q2] at e; cases e
        | some r2 =>
          rw [q2] at e
          cases r2 with
          | ex x st3 => simp [Rs.bs] at e
          | ok vs2 st3 =>
            simp only [Rs.bs, Option.some.injEq, ERs.ok.injEq] at e
            rw [← e.1]
            simp [evEs_len q2]
theorem srcs_of {F1 : Hp} {ρ1 : List Addr} {K : PySem.W.Frag} {ms : List ME} {es : List Expr} {φ : Slots} {st st1 : Store} {vs : List LV} {ps : List PV} {ws : List V} (hl : ms.length = es.length) (e1 : evEs S ms φ st = some (.ok vs st1)) (e2 : unpv vs = some ps) (r : RLs K F1 ρ1 vs ws) :
    ps.length = es.length ∧ RPs K F1 ps ws := by
  have e3 := unpv_eq e2
  have l := evEs_len e1
  rw [e3] at r l
  rw [List.length_map] at l
  exact ⟨l.trans hl, RLs_pv.mp r⟩
theorem iter_ok (C : Cok X g M S W k) {ik : IK} {src : List ME} {it : Expr} {xs : List Expr} {tg : Expr} (h : srcOf g ik tg it = some xs) (hs : SEs X M S W src xs) :
    ∃ wi, PI X tg it wi ∧ RdI M X.K W S wi ik src ∧ (∀ env x, foldedSetIterable it env x = pure x) := by
  cases ik with
  | enum =>
    simp only [srcOf] at h
    split at h
    · rename_i f fp y pos
      split at h
      · rename_i hc
        simp only [Option.some.injEq] at h
        subst h
        simp only [Bool.and_eq_true, decide_eq_true_eq, Bool.not_eq_true'] at hc
        obtain ⟨⟨⟨hf, hg⟩, ht⟩, hst⟩ := hc
        obtain ⟨g1, g2⟩ := C.gl hg
        subst hf
        obtain ⟨t, ht1, hr⟩ := hs.pa
        have sa : starEach [y] X.env = [(false, eval y X.env)] := by rw [star_each hst]; rfl
        cases tg <;> simp only [isTupE, Bool.false_eq_true] at ht
        refine ⟨_, pi_or (pi_enum g1 C.en ht1 sa) (pi_enumS g1 C.en ht1 sa), ?_, fun env x => rfl⟩
        intro σ H Rr φ F ρ st hh hsl
        refine ⟨fun vs st1 ps ys e1 e2 e3 q => ?_, fun x st1 e1 q => .inl (hr σ H _ φ F ρ st _ hh hsl e1 q)⟩
        have hlen := hs.len
        match ps, e2, e3 with
        | [p], e2, e3 =>
          cases p <;> simp only [items, Option.some.injEq, reduceCtorEq] at e3
          case lst xs =>
            subst e3
            refine .inl (hr σ H _ φ F ρ st _ hh hsl e1 fun F1 ρ1 H1 ws g1 h1 r1 => ?_)
            obtain ⟨lv, r2⟩ := srcs_of hlen e1 e2 r1
            simp only [RPs, RP] at r2
            obtain ⟨v, r', w1, ⟨a, zs, e5, e6, e7⟩, w3⟩ := r2
            subst w1 w3 e5
            exact ⟨a, zs, rfl, .inl (.inl (h1.sub _ _ e6)), q F1 ρ1 H1 _ g1 h1 (it_enum e6 e7)⟩
          case str x =>
            split at e3
            · simp only [Option.some.injEq] at e3
              subst e3
              refine .inr (hr σ H _ φ F ρ st _ hh hsl e1 fun F1 ρ1 H1 ws g1 h1 r1 => ?_)
              obtain ⟨lv, r2⟩ := srcs_of hlen e1 e2 r1
              simp only [RPs, RP] at r2
              obtain ⟨v, r', w1, w2, w3⟩ := r2
              subst w1 w3
              exact ⟨mkS x, by rw [w2.1], q F1 ρ1 H1 _ g1 h1 (it_enumS w2.2)⟩
            · cases e3
        | [], _, e3 => simp [items] at e3
        | _ :: _ :: _, _, e3 => simp [items] at e3
      · cases h
    · cases h
  | val =>
    simp only [srcOf] at h
    split at h
    · cases h
    · rename_i hset
      simp only [Option.some.injEq] at h
      subst h
      have hl := hs.len
      cases src with
      | nil => simp at hl
      | cons m ms =>
        cases ms with
        | cons _ _ => simp at hl
        | nil =>
          obtain ⟨e, r, h1, h2, ⟨t, h3, h4⟩, h5⟩ := hs
          simp only [List.cons.injEq] at h1
          obtain ⟨h1, _⟩ := h1
          subst h1
          refine ⟨_, pi_or (pi_seq h3) (pi_str h3), ?_, fun env x => noFold (by simpa using hset) env x⟩
          intro σ H Rr φ F ρ st hh hsl
          constructor
          · intro vs st1 ps ys e1 e2 e3 q
            obtain ⟨v, ev, e4⟩ := one_ok e1
            subst ev
            cases v with
            | ref n => simp [unpv] at e2
            | tup _ => simp [unpv] at e2
            | exn _ => simp [unpv] at e2
            | pv p =>
              simp only [unpv, Option.map_some, Option.some.injEq] at e2
              subst e2
              cases p <;> simp only [items, Option.some.injEq, reduceCtorEq] at e3
              case str x =>
                split at e3
                · simp only [Option.some.injEq] at e3
                  subst e3
                  refine .inr (h4 σ H _ φ F ρ st _ hh hsl e4 fun F1 ρ1 H1 w g1 h1 r1 => ?_)
                  simp only [RL, RP] at r1
                  exact ⟨mkS x, r1.1, q F1 ρ1 H1 _ g1 h1 (it_str r1.2)⟩
                · cases e3
              case tup xs =>
                subst e3
                refine .inl (h4 σ H _ φ F ρ st _ hh hsl e4 fun F1 ρ1 H1 w g1 h1 r1 => ?_)
                simp only [RL, RP] at r1
                obtain ⟨a, ws, e5, e6, e7⟩ := r1
                exact ⟨a, e5, .inr ⟨⟨ws, .inl (.inl (h1.sub _ _ e6))⟩, q F1 ρ1 H1 _ g1 h1 (it_tup e6 e7)⟩⟩
              case lst xs =>
                subst e3
                refine .inl (h4 σ H _ φ F ρ st _ hh hsl e4 fun F1 ρ1 H1 w g1 h1 r1 => ?_)
                simp only [RL, RP] at r1
                obtain ⟨a, ws, e5, e6, e7⟩ := r1
                exact ⟨a, e5, .inl ⟨⟨ws, .inl (.inl (h1.sub _ _ e6))⟩, q F1 ρ1 H1 _ g1 h1 (it_list e6 e7)⟩⟩
          · intro x st1 e1 q
            exact .inl (h4 σ H _ φ F ρ st _ hh hsl (one_ex e1) q)
  | range =>
    simp only [srcOf] at h
    split at h
    · rename_i f fp ys pos
      split at h
      · rename_i hc
        simp only [Option.some.injEq] at h
        subst h
        simp only [Bool.and_eq_true, decide_eq_true_eq] at hc
        obtain ⟨⟨⟨hf, hg⟩, hl1⟩, hl3⟩ := hc
        obtain ⟨g1, g2⟩ := C.gl hg
        subst hf
        obtain ⟨t, ht, hr⟩ := hs.pa
        have hst := hs.star
        have fold : ∀ env x, foldedSetIterable (.Call (.Name rangeN fp) ys [] pos) env x = pure x := fun env x => rfl
        have hlen := hs.len
        match ys, hl1, hl3, ht, hst, hlen with
        | [a], _, _, ht, hst, hlen =>
          have sa : starEach [a] X.env = [(false, eval a X.env)] := by
            simp only [List.all_cons, Bool.and_eq_true, Bool.not_eq_true'] at hst
            rw [star_each hst.1]; rfl
          refine ⟨_, pi_range1 g1 C.br ht sa, ?_, fold⟩
          intro σ H Rr φ F ρ st hh hsl
          refine ⟨fun vs st1 ps ys e1 e2 e3 q => hr σ H _ φ F ρ st _ hh hsl e1 fun F1 ρ1 H1 ws g1 h1 r1 => ?_, fun x st1 e1 q => hr σ H _ φ F ρ st _ hh hsl e1 q⟩
          obtain ⟨lv, r2⟩ := srcs_of hlen e1 e2 r1
          match ps, lv, e3, r2 with
          | [p], _, e3, r2 =>
            cases p <;> simp only [items, reduceCtorEq] at e3
            rename_i j
            split at e3
            · rename_i hj
              simp only [Option.some.injEq] at e3
              subst e3
              simp only [RPs, RP] at r2
              obtain ⟨v, r', w1, w2, w3⟩ := r2
              subst w1 w2 w3
              obtain ⟨b1, b2⟩ := rangeOk_ok hj
              exact ⟨_, rfl, b1, b2, q F1 ρ1 H1 _ g1 h1 (it_range 0 _)⟩
            · cases e3
        | [a, b], _, _, ht, hst, hlen =>
          simp only [List.all_cons, Bool.and_eq_true, Bool.not_eq_true'] at hst
          have sb : starEach [b] X.env = [(false, eval b X.env)] := by rw [star_each hst.2.1]; rfl
          have sa : starEach [a, b] X.env = [(false, eval a X.env), (false, eval b X.env)] := by rw [star_each hst.1, sb]
          refine ⟨_, pi_range2 g1 C.br ht sa sb, ?_, fold⟩
          intro σ H Rr φ F ρ st hh hsl
          refine ⟨fun vs st1 ps ys e1 e2 e3 q => hr σ H _ φ F ρ st _ hh hsl e1 fun F1 ρ1 H1 ws g1 h1 r1 => ?_, fun x st1 e1 q => hr σ H _ φ F ρ st _ hh hsl e1 q⟩
          obtain ⟨lv, r2⟩ := srcs_of hlen e1 e2 r1
          match ps, lv, e3, r2 with
          | [p, p'], _, e3, r2 =>
            cases p <;> cases p' <;> simp only [items, reduceCtorEq] at e3
            split at e3
            · rename_i hj
              simp only [Option.some.injEq] at e3
              subst e3
              simp only [Bool.and_eq_true] at hj
              simp only [RPs, RP] at r2
              obtain ⟨v, r', w1, w2, v', r'', w3, w4, w5⟩ := r2
              subst w1 w2 w3 w4 w5
              obtain ⟨b1, b2⟩ := rangeOk_ok hj.1
              obtain ⟨b3, b4⟩ := rangeOk_ok hj.2
              exact ⟨_, _, rfl, ⟨b1, b2, b3, b4⟩, q F1 ρ1 H1 _ g1 h1 (it_range _ _)⟩
            · cases e3
        | [a, b, c], _, _, ht, hst, hlen =>
          simp only [List.all_cons, Bool.and_eq_true, Bool.not_eq_true'] at hst
          refine ⟨_, pi_range3 g1 C.br ht (star_each hst.1) (star_plain (by simp [hst.2.1, hst.2.2.1])), ?_, fold⟩
          intro σ H Rr φ F ρ st hh hsl
          refine ⟨fun vs st1 ps ys e1 e2 e3 q => hr σ H _ φ F ρ st _ hh hsl e1 fun F1 ρ1 H1 ws g1 h1 r1 => ?_, fun x st1 e1 q => hr σ H _ φ F ρ st _ hh hsl e1 q⟩
          obtain ⟨lv, r2⟩ := srcs_of hlen e1 e2 r1
          match ps, lv, e3, r2 with
          | [p, p', p''], _, e3, r2 =>
            cases p <;> cases p' <;> cases p'' <;> simp only [items, reduceCtorEq] at e3
            split at e3
            · rename_i hj
              simp only [Option.some.injEq] at e3
              subst e3
              simp only [Bool.and_eq_true, decide_eq_true_eq] at hj
              simp only [RPs, RP] at r2
              obtain ⟨v, r', w1, w2, v', r'', w3, w4, v3, r3, w5, w6, w7⟩ := r2
              obtain ⟨⟨j1, j2⟩, j3⟩ := hj
              subst j3
              subst w1 w2 w3 w4 w5 w6 w7
              obtain ⟨b1, b2⟩ := rangeOk_ok j1
              obtain ⟨b3, b4⟩ := rangeOk_ok j2
              exact ⟨_, _, _, _, rfl, RgC.neg b1 b2 b3 b4, q F1 ρ1 H1 _ g1 h1 (it_down _ _)⟩
            · cases e3
      · cases h
    · cases h
end
end Z
end

section
/-! ZM: comprehensions. -/
namespace Z
open PySem PySem.Spec PyProof.Rows L2
section
variable {X : Cx} {g : SC} {M : Nm} {S : Sem} {W : WX} {k : Nat}
abbrev W0 : WX := fun _ _ _ _ => False
theorem Cok.blk (C : Cok X g M S W k) (hn : g.hot = false) (scope : Scope) (s : Shared) (H : Hp) (A : Addr) (cl : List (Str × Addr)) (fp : List Addr) :
    Cok (X.blk s H scope (compEnvC scope cl A X.env) fp) (g.blk scope) M S W0 k where
  N := C.N
  sc := by
    show relabel scope X.env = relS scope g.sc
    rw [← C.sc]; rfl
  fn := fun x h => by
    have h' : decide (scope.names.lookup x = some .cell) = true := h
    show (scope.names.lookup x == some .cell) = true
    rw [of_decide_eq_true h']; rfl
  nd := C.nd
  calm := C.calm
  hr := C.hr
  hrH := fun h => by have h2 : g.hot = true := h; rw [hn] at h2; cases h2
  hotc := fun h => by have h2 : g.hot = true := h; rw [hn] at h2; cases h2
  callsH := C.callsH
  un := C.un
  gd := C.gd
  gdx := C.gdx
  tab := C.tab
  dtab := C.dtab
  fr := C.fr
  glb := C.glb
  calls := C.calls
  errs := fun c ei h => ⟨(C.errs c ei h).adr, (C.errs c ei h).xf, (C.errs c ei h).ec, (C.errs c ei h).no, (C.errs c ei h).sub, (C.errs c ei h).xin, (C.errs c ei h).make⟩
  cls := fun c ci h => ⟨(C.cls c ci h).adr, (C.cls c ci h).cl, (C.cls c ci h).no, (C.cls c ci h).meth, (C.cls c ci h).make⟩
  nf := C.nf
  xerr := C.xerr
  finj := C.finj
  fname := C.fname
  cur := by
    have h1 := C.cur
    have h2 : (g.blk scope).exn = none := C.cold hn
    rw [C.cold hn] at h1
    rw [h2]
    exact h1
  cold := fun _ => C.cold hn
  stk := fun h => by cases h
  frm := fun h => by cases h
  takes := takesN
  pass := PassesOwn.never
section
variable {F F' F1 F2 H H' H1 H2 : Hp} {ρ ρ' ρ1 ρ2 : List Addr} {st : Store} {K : PySem.W.Frag} {D : Addr} {o o' : HO}
/-- the object at D, younger than the beginning, changes -/
theorem G.turnD (g : G F1 ρ1 H1 F2 ρ2 H2) (nD : H1 D = none) (h : HR' M K F2 ρ2 H2 st) (nF : F2 D = none) (nρ : D ∉ ρ2) : G F1 ρ1 H1 F2 ρ2 (upd H2 D o) ∧ HR' M K F2 ρ2 (upd H2 D o) st := by
  refine ⟨⟨g.sub, g.pre, fun b u e hb => by rw [upd_ne (ne_of_none e nD)]; exact g.keep b u e hb, g.new, g.newρ, fun b hb => ?_⟩, ⟨fun b u e => by rw [upd_ne (ne_of_none e nF)]; exact h.sub b u e, h.len, h.nd, fun n a c e1 e2 => ?_⟩⟩
  · by_cases hbD : b = D
    · rw [hbD, upd_same]; simp
    · rw [upd_ne hbD]; exact g.hold b hb
  · have hc := h.cell n a c e1 e2
    have hne : a ≠ D := fun z => nρ (by rw [← z]; exact List.mem_of_getElem? e1)
    exact hc.mono (Sub.refl _) (Pre.refl _) (fun u e => by rw [upd_ne hne]; exact e) fun e => e
/-- it becomes a cell -/
theorem G.adoptC (g : G F1 ρ1 H1 F2 ρ2 H2) (nD : H1 D = none) (h : HR' M K F2 ρ2 H2 st) (nρ : D ∉ ρ2) {c : Cell} (hc : CR K F2 (ρ2 ++ [D]) M.cad M.fnm H2 D c) : G F1 ρ1 H1 F2 (ρ2 ++ [D]) H2 ∧ HR' M K F2 (ρ2 ++ [D]) H2 (st ++ [c]) := by
  refine ⟨⟨g.sub, g.pre.trans (Pre.snoc _ _), g.keep, g.new, fun b hb => ?_, g.hold⟩, ⟨h.sub, by rw [List.length_append, List.length_append, h.len]; rfl, ?_, fun n a c' e1 e2 => ?_⟩⟩
  · rcases List.mem_append.mp hb with z | z
    · exact g.newρ b z
    · have e : b = D := by simpa using z
      exact .inr (by rw [e]; exact nD)
  · exact List.nodup_append.mpr ⟨h.nd, by simp, fun x hx y hy e => nρ (by
      have : y = D := by simpa using hy
      rw [← this, ← e]; exact hx)⟩
  · by_cases hn : n < ρ2.length
    · rw [List.getElem?_append_left hn] at e1
      rw [List.getElem?_append_left (by rw [← h.len]; exact hn)] at e2
      exact (h.cell n a c' e1 e2).mono (Sub.refl _) (Pre.snoc _ _) (fun u e => e) fun e => e
    · have hn' : n = ρ2.length := by
        have := (List.getElem?_eq_some_iff.mp e1).1
        rw [List.length_append] at this
        simp only [List.length_cons, List.length_nil] at this
        omega
      subst hn'
      rw [List.getElem?_append_right (Nat.le_refl _)] at e1
      rw [h.len, List.getElem?_append_right (Nat.le_refl _)] at e2
      simp only [Nat.sub_self, List.getElem?_cons_zero, Option.some.injEq] at e1 e2
      subst e1 e2
      exact hc
/-- nothing will change it any more -/
theorem G.adoptF (g : G F1 ρ1 H1 F2 ρ2 H2) (nD : H1 D = none) (h : HR' M K F2 ρ2 H2 st) (hD : H2 D = some o) (nF : F2 D = none) (nρ : D ∉ ρ2) : G F1 ρ1 H1 (upd F2 D o) ρ2 H2 ∧ HR' M K (upd F2 D o) ρ2 H2 st := by
  refine ⟨⟨g.sub.trans (sub_upd nF), g.pre, g.keep, fun b u e => ?_, g.newρ, g.hold⟩, ⟨fun b u e => ?_, h.len, h.nd, fun n a c e1 e2 => ?_⟩⟩
  · by_cases hb : b = D
    · exact .inr (.inl (by rw [hb]; exact nD))
    · rw [upd_ne hb] at e; exact g.new b u e
  · by_cases hb : b = D
    · subst hb; rw [upd_same] at e; rw [← e]; exact hD
    · rw [upd_ne hb] at e; exact h.sub b u e
  · have hc := h.cell n a c e1 e2
    have hne : a ≠ D := fun z => nρ (by rw [← z]; exact List.mem_of_getElem? e1)
    exact hc.mono (sub_upd nF) (Pre.refl _) (fun u e => e) fun e => by rw [upd_ne hne]; exact e
/-- D through what may have come to pass -/
theorem G.atD (g : G F1 ρ1 H1 F2 ρ2 H2) (hD : H1 D = some o) (nF : F1 D = none) (nρ : D ∉ ρ1) : H2 D = some o ∧ F2 D = none ∧ D ∉ ρ2 := by
  refine ⟨g.keep D o hD nρ, ?_, fun hm => (g.newρ D hm).elim nρ fun z => by rw [hD] at z; cases z⟩
  cases q : F2 D with
  | none => rfl
  | some u =>
    rcases g.new D u q with z | z | z
    · rw [nF] at z; cases z
    · rw [hD] at z; cases z
    · exact absurd z nρ
end
theorem RLs.snoc {K : PySem.W.Frag} {F : Hp} {ρ : List Addr} {xs : List LV} {vs : List V} {y : LV} {v : V} (h : RLs K F ρ xs vs) (r : RL K F ρ y v) : RLs K F ρ (xs ++ [y]) (vs ++ [v]) :=
  h.append (by simp only [RLs]; exact ⟨v, [], rfl, r, rfl⟩)
/-- what a turn's test and element read -/
def RdTurn (M : Nm) (K : PySem.W.Frag) (tt : TT) (te : TE) (body : Slots → Store → Option ERs) : Prop := ∀ φ σ F ρ H st st' ys (U : V → Hp → Prop) (U0 : Hp → Prop), HR' M K F ρ H st → SL M K F ρ σ φ → body φ st = some (.ok ys st') →
  (∀ F' ρ' H', G F ρ H F' ρ' H' → HR' M K F' ρ' H' st' → (ys = [] → U0 H') ∧ ∀ y v, ys = [y] → RL K F' ρ' y v → U v H') → tt σ H fun b H3 => if b = true then te σ H3 U else U0 H3
/-- the loop of a comprehension with one clause -/
theorem lc_loop {J : It} {tg : TG} {tt : TT} {te : TE} {mg : MG} {own : List Nat} {xs : List PV} {K : PySem.W.Frag} {F1 H1 : Hp} {ρ1 : List Addr} {st1 stE : Store} {all : List LV} {σ : L2.St} {φ : Slots} {D : Addr} {Q : Hp → Prop} {step : PV → Store → Option ERs} {body : Slots → Store → Option ERs}
    (hstep : ∀ x st, step x st = match asgG mg (.pv x) (wipeL φ own) with
      | some φ1 => body φ1 st
      | none => none)
    (hg : RdG M K tg mg) (hsub : ∀ i ∈ slotsG mg, i ∈ own) (hb : RdTurn M K tt te body)
    (h1 : HR' M K F1 ρ1 H1 st1) (hs : SL M K F1 ρ1 σ φ) (ito : ItOk K J xs F1) (nD : H1 D = none) (ql : lcLoop step xs st1 = some (all, stE)) (hall : all.length ≤ line)
    (hq : ∀ F2 ρ2 H2 accV, G F1 ρ1 H1 F2 ρ2 H2 → HR' M K F2 ρ2 H2 stE → H2 D = some (.lst accV) → F2 D = none → D ∉ ρ2 → RLs K F2 ρ2 all accV → Q H2) :
    ∃ W_1 : Nat → Nat → Hp → Prop, (∃ m, W_1 0 m (upd H1 D (.lst []))) ∧ ∀ i m H, W_1 i m H →
      (J.stop i H ∧ Q H) ∨ (J.go i H ∧ ∃ Nx : Hp → Prop, (∀ H', Nx H' → ∃ m', m' < m ∧ W_1 (i + 1) m' H') ∧ ∀ x H', J.yld i H x H' → tg x (wipe σ own) H' fun σ2 H2 => wipe σ2 own = wipe σ own ∧ tt σ2 H2 fun b H3 =>
        if b = true then te σ2 H3 fun y H4 => ∃ acc, H4 D = some (.lst acc) ∧ acc.length < sizeLine ∧ Nx (upd H4 D (.lst (acc ++ [y]))) else Nx H3) := by
  obtain ⟨Inv, hInv⟩ : ∃ Inv : Nat → Hp → Prop, Inv = fun i H => i ≤ xs.length ∧ ∃ F2 ρ2 st2 acc accV zs, G F1 ρ1 H1 F2 ρ2 H ∧ HR' M K F2 ρ2 H st2 ∧ H D = some (.lst accV) ∧ F2 D = none ∧ D ∉ ρ2 ∧ RLs K F2 ρ2 acc accV ∧
      lcLoop step (xs.drop i) st2 = some (zs, stE) ∧ acc ++ zs = all := ⟨_, rfl⟩
  refine ⟨fun i m H => m = xs.length - i ∧ Inv i H, ⟨xs.length, by simp, ?_⟩, ?_⟩
  · obtain ⟨gL, hL⟩ := h1.laid nD (.lst [])
    rw [hInv]
    exact ⟨Nat.zero_le _, F1, ρ1, st1, [], [], all, gL, hL, upd_same, h1.fresh nD, h1.notin nD, by simp only [RLs], by simpa using ql, rfl⟩
  rintro i m H2 ⟨rfl, hI⟩
  rw [hInv] at hI
  obtain ⟨hi, F2, ρ2, st2, acc, accV, zs, g2, h2, hD, nF2, nρ2, ra, el, ea⟩ := hI
  by_cases hlt : i < xs.length
  · refine .inr ?_
    have hx : xs[i]? = some xs[i] := List.getElem?_eq_getElem hlt
    obtain ⟨hgo, hy⟩ := ito.at_ i xs[i] F2 H2 hx g2.sub h2.sub
    rw [List.drop_eq_getElem_cons hlt] at el
    unfold lcLoop at el
    cases qs : step xs[i] st2 with
    | none => simp [qs, noX] at el
    | some rr =>
      cases rr with
      | ex x stx => simp [qs, noX] at el
      | ok ys st3 =>
        simp only [qs, noX] at el
        cases q3 : lcLoop step (xs.drop (i + 1)) st3 with
        | none => simp [q3] at el
        | some p3 =>
          obtain ⟨zs', stE'⟩ := p3
          simp only [q3, Option.some.injEq, Prod.mk.injEq] at el
          obtain ⟨el1, el2⟩ := el
          subst el2
          refine ⟨hgo, Inv (i + 1), fun H' hN => ⟨xs.length - (i + 1), by omega, rfl, hN⟩, fun x H' hyl => ?_⟩
          have item : ∃ F3 , G F2 ρ2 H2 F3 ρ2 H' ∧ HR' M K F3 ρ2 H' st2 ∧ RP K F3 xs[i] x := by
            rcases hy x H' hyl with ⟨e1, e2⟩ | ⟨T, o, e0, e1, e2⟩
            · subst e1
              exact ⟨F2, G.refl _ _ _, h2, e2⟩
            · subst e1
              obtain ⟨g3, h3⟩ := h2.new e0 o
              exact ⟨_, g3, h3, e2⟩
          obtain ⟨F3, g3, h3, rx⟩ := item
          rw [hstep] at qs
          cases qa : asgG mg (.pv xs[i]) (wipeL φ own) with
          | none => simp [qa] at qs
          | some φ1 =>
            simp only [qa] at qs
            refine hg (.pv xs[i]) x (wipeL φ own) φ1 (wipe σ own) F3 ρ2 H' st2 _ h3 ((hs.g (g2.trans g3)).wipe own) (by simp only [RL]; exact rx) qa fun σ2 hs2 ho => ?_
            refine ⟨by rw [ho own hsub, wipe_wipe], ?_⟩
            refine hb φ1 σ2 F3 ρ2 H' st2 st3 ys (fun y H4 => ∃ acc, H4 D = some (.lst acc) ∧ acc.length < sizeLine ∧ Inv (i + 1) (upd H4 D (.lst (acc ++ [y])))) (Inv (i + 1)) h3 hs2 qs ?_
            intro F4 ρ4 H4 g4 h4
            have g34 := g3.trans g4
            obtain ⟨hD4, nF4, nρ4⟩ := g34.atD hD nF2 nρ2
            have gg : G F1 ρ1 H1 F4 ρ4 H4 := g2.trans g34
            have ra4 : RLs K F4 ρ4 acc accV := RLs.mono g34.sub g34.pre _ _ ra
            refine ⟨fun ey => ?_, fun y v ey ry => ?_⟩
            · subst ey
              rw [hInv]
              exact ⟨hlt, F4, ρ4, st3, acc, accV, zs', gg, h4, hD4, nF4, nρ4, ra4, q3, by rw [← ea, ← el1]; simp⟩
            · subst ey
              have hlen : accV.length < sizeLine := by
                rw [← ra4.length, line_eq]
                have := hall
                rw [← ea, ← el1] at this
                simp only [List.length_append, List.length_cons, List.length_nil] at this
                omega
              obtain ⟨gU, hU⟩ := gg.turnD (o := .lst (accV ++ [v])) nD h4 nF4 nρ4
              refine ⟨accV, hD4, hlen, ?_⟩
              rw [hInv]
              exact ⟨hlt, F4, ρ4, st3, acc ++ [y], accV ++ [v], zs', gU, hU, upd_same, nF4, nρ4, ra4.snoc ry, q3, by rw [← ea, ← el1]; simp⟩
  · have hi' : i = xs.length := by omega
    subst hi'
    refine .inl ⟨ito.stop F2 H2 g2.sub h2.sub, ?_⟩
    rw [List.drop_length] at el
    simp only [lcLoop, Option.some.injEq, Prod.mk.injEq] at el
    obtain ⟨el1, el2⟩ := el
    subst el1 el2
    rw [List.append_nil] at ea
    subst ea
    exact hq F2 ρ2 H2 accV g2 h2 hD nF2 nρ2 ra
theorem mkLst_ok {K : PySem.W.Frag} {live : Bool} {all : List LV} {F F2 H H2 : Hp} {ρ ρ2 : List Addr} {st : Store} {D : Addr} {accV : List V} {Q : VK} {r : ER} {σ : L2.St} (e : mkLst live all st = some r) (post : PostE M K W σ F ρ H Q r)
    (g : G F ρ H F2 ρ2 H2) (nD : H D = none) (h : HR' M K F2 ρ2 H2 st) (hD : H2 D = some (.lst accV)) (nF : F2 D = none) (nρ : D ∉ ρ2) (ra : RLs K F2 ρ2 all accV) : Q (.ref D) H2 := by
  unfold mkLst at e
  split at e
  · split at e
    · rename_i hl
      simp only [Option.some.injEq] at e
      subst e
      obtain ⟨g2, h2⟩ := g.adoptC nD h nρ (c := .lst true all) ⟨accV, hD, RLs.mono (Sub.refl _) (Pre.snoc _ _) _ _ ra, fun _ => nF, fun z => Bool.noConfusion z⟩
      refine post _ _ _ _ g2 h2 ?_
      simp only [RL]
      exact ⟨D, rfl, by rw [← h.len, List.getElem?_append_right (Nat.le_refl _)]; simp⟩
    · split at e
      · rename_i ps hu
        simp only [Option.some.injEq] at e
        subst e
        obtain ⟨g2, h2⟩ := g.adoptF nD h hD nF nρ
        refine post _ _ _ _ g2 h2 ?_
        simp only [RL, RP]
        rw [unpv_eq hu] at ra
        exact ⟨D, accV, rfl, upd_same, RPs.mono (sub_upd nF) _ _ (RLs_pv.mp ra)⟩
      · cases e
  · cases e
/-- the reading of a comprehension with one clause -/
theorem rd_lc {wi : TI} {tg : TG} {tt : TT} {te : TE} {mg : MG} {ik : IK} {src : List ME} {ifs : List MT} {elt : ME} {own : List Nat} {live : Bool}
    (hi : RdI M X.K W S wi ik src) (hg : RdG M X.K tg mg) (hsub : ∀ i ∈ slotsG mg, i ∈ own)
    (hb : RdTurn M X.K tt te fun φ st => evIf S ifs φ st fun st => R.bs (evE S elt φ st) fun y st => some (.ok [y] st)) :
    RdE M X.K W (tLc wi tg tt te own) (evE S (.lc live elt mg ik src ifs own)) := by
  intro σ H Q φ F ρ st r hh hs e post
  unfold tLc
  simp only [evE] at e
  obtain ⟨hok, hex⟩ := hi σ H _ φ F ρ st hh hs
  cases q : evEs S src φ st with
  | none => rw [q] at e; cases e
  | some rs =>
    rw [q] at e
    cases rs with
    | ex x st1 =>
      have e' : r = .ex x st1 := (Option.some.inj e).symm
      subst e'
      exact hex x st1 q post
    | ok vs st1 =>
      simp only [Rs.bind] at e
      cases qu : unpv vs with
      | none => simp [qu] at e
      | some ps =>
        simp only [qu] at e
        cases qi : items ik ps with
        | none => simp [qi] at e
        | some xs =>
          simp only [qi] at e
          split at e
          · rename_i all stE ql
            refine hok vs st1 ps xs q qu qi fun F1 ρ1 H1 J g1 h1 ito D nD => ?_
            have hall : all.length ≤ line := by
              unfold mkLst at e
              split at e
              · assumption
              · cases e
            refine lc_loop (body := fun φ st => evIf S ifs φ st fun st => R.bs (evE S elt φ st) fun y st => some (.ok [y] st)) (fun x st => rfl) hg hsub hb h1 (hs.g g1) ito nD ql hall fun F2 ρ2 H2 accV g2 h2 hD nF nρ ra => ?_
            exact mkLst_ok e (post.g g1) g2 nD h2 hD nF nρ ra
          · cases e
/-- the loop of a comprehension over a list where it stands -/
theorem lc_walk {tg : TG} {tt : TT} {te : TE} {mg : MG} {own : List Nat} {K : PySem.W.Frag} {F1 H1 : Hp} {ρ1 : List Addr} {st1 stE : Store} {all : List LV} {σ : L2.St} {φ : Slots} {D a : Addr} {Q : Hp → Prop} {n : Nat} {step : LV → Store → Option ERs} {body : Slots → Store → Option ERs}
    (hstep : ∀ x st, step x st = match asgG mg x (wipeL φ own) with
      | some φ1 => body φ1 st
      | none => none)
    (hg : RdG M K tg mg) (hsub : ∀ i ∈ slotsG mg, i ∈ own) (hb : RdTurn M K tt te body)
    (h1 : HR' M K F1 ρ1 H1 st1) (hs : SL M K F1 ρ1 σ φ) (ea : ρ1[n]? = some a) (nD : H1 D = none) (ql : lcWalk step n (walkF n st1) 0 st1 = some (all, stE)) (hall : all.length ≤ line)
    (hq : ∀ F2 ρ2 H2 accV, G F1 ρ1 H1 F2 ρ2 H2 → HR' M K F2 ρ2 H2 stE → H2 D = some (.lst accV) → F2 D = none → D ∉ ρ2 → RLs K F2 ρ2 all accV → Q H2) :
    ∃ W_1 : Nat → Nat → Hp → Prop, (∃ m, W_1 0 m (upd H1 D (.lst []))) ∧ ∀ i m H, W_1 i m H →
      ((Itl K a).stop i H ∧ Q H) ∨ ((Itl K a).go i H ∧ ∃ Nx : Hp → Prop, (∀ H', Nx H' → ∃ m', m' < m ∧ W_1 (i + 1) m' H') ∧ ∀ x H', (Itl K a).yld i H x H' → tg x (wipe σ own) H' fun σ2 H2 => wipe σ2 own = wipe σ own ∧ tt σ2 H2 fun b H3 =>
        if b = true then te σ2 H3 fun y H4 => ∃ acc, H4 D = some (.lst acc) ∧ acc.length < sizeLine ∧ Nx (upd H4 D (.lst (acc ++ [y]))) else Nx H3) := by
  obtain ⟨Inv, hInv⟩ : ∃ Inv : Nat → Nat → Hp → Prop, Inv = fun i f H => ∃ F2 ρ2 st2 acc accV zs, G F1 ρ1 H1 F2 ρ2 H ∧ HR' M K F2 ρ2 H st2 ∧ H D = some (.lst accV) ∧ F2 D = none ∧ D ∉ ρ2 ∧ RLs K F2 ρ2 acc accV ∧
      lcWalk step n f i st2 = some (zs, stE) ∧ acc ++ zs = all := ⟨_, rfl⟩
  refine ⟨fun i f H => Inv i f H, ⟨walkF n st1, ?_⟩, ?_⟩
  · obtain ⟨gL, hL⟩ := h1.laid nD (.lst [])
    rw [hInv]
    exact ⟨F1, ρ1, st1, [], [], all, gL, hL, upd_same, h1.fresh nD, h1.notin nD, by simp only [RLs], ql, rfl⟩
  rintro i f H2 hI
  rw [hInv] at hI
  obtain ⟨F2, ρ2, st2, acc, accV, zs, g2, h2, hD, nF2, nρ2, ra, el, eall⟩ := hI
  cases f with
  | zero => simp [lcWalk] at el
  | succ f =>
    unfold lcWalk at el
    have ea2 : ρ2[n]? = some a := g2.pre _ _ ea
    obtain ⟨c, ec, hc⟩ := h2.at ea2
    rw [ec] at el
    cases c with
    | dk _ _ => simp at el
    | dt _ _ => simp at el
    | ins _ _ => simp at el
    | lst live ys =>
      simp only at el
      obtain ⟨vs, hv1, hv2, _⟩ := hc
      have hqq : SqL K H2 a vs := .inl (.inl hv1)
      cases hx : ys[i]? with
      | none =>
        rw [hx] at el
        simp only [Option.some.injEq, Prod.mk.injEq] at el
        obtain ⟨el1, el2⟩ := el
        subst el1 el2
        rw [List.append_nil] at eall
        subst eall
        refine .inl ⟨⟨vs, hqq, ?_⟩, hq F2 ρ2 H2 accV g2 h2 hD nF2 nρ2 ra⟩
        rw [← hv2.length]
        exact List.getElem?_eq_none_iff.mp hx
      | some x =>
        rw [hx] at el
        simp only at el
        obtain ⟨u, hu1, hu2⟩ := hv2.get hx
        cases qs : step x st2 with
        | none => simp [qs, noX] at el
        | some rr =>
          cases rr with
          | ex x stx => simp [qs, noX] at el
          | ok ys2 st3 =>
            simp only [qs, noX] at el
            cases q3 : lcWalk step n f (i + 1) st3 with
            | none => simp [q3] at el
            | some p3 =>
              obtain ⟨zs', stE'⟩ := p3
              simp only [q3, Option.some.injEq, Prod.mk.injEq] at el
              obtain ⟨el1, el2⟩ := el
              subst el2
              refine .inr ⟨⟨vs, u, hqq, hu1⟩, Inv (i + 1) f, fun H' hN => ⟨f, Nat.lt_succ_self _, hN⟩, fun y H' hyl => ?_⟩
              obtain ⟨eH, hy⟩ := hyl
              subst eH
              have hy2 := hy vs hqq
              rw [hu1] at hy2
              cases hy2
              rw [hstep] at qs
              cases qa : asgG mg x (wipeL φ own) with
              | none => simp [qa] at qs
              | some φ1 =>
                simp only [qa] at qs
                refine hg x u (wipeL φ own) φ1 (wipe σ own) F2 ρ2 H' st2 _ h2 ((hs.g g2).wipe own) hu2 qa fun σ2 hs2 ho => ?_
                refine ⟨by rw [ho own hsub, wipe_wipe], ?_⟩
                refine hb φ1 σ2 F2 ρ2 H' st2 st3 ys2 (fun y H4 => ∃ acc, H4 D = some (.lst acc) ∧ acc.length < sizeLine ∧ Inv (i + 1) f (upd H4 D (.lst (acc ++ [y])))) (Inv (i + 1) f) h2 hs2 qs ?_
                intro F4 ρ4 H4 g4 h4
                obtain ⟨hD4, nF4, nρ4⟩ := g4.atD hD nF2 nρ2
                have gg : G F1 ρ1 H1 F4 ρ4 H4 := g2.trans g4
                have ra4 : RLs K F4 ρ4 acc accV := RLs.mono g4.sub g4.pre _ _ ra
                refine ⟨fun ey => ?_, fun y v ey ry => ?_⟩
                · subst ey
                  rw [hInv]
                  exact ⟨F4, ρ4, st3, acc, accV, zs', gg, h4, hD4, nF4, nρ4, ra4, q3, by rw [← eall, ← el1]; simp⟩
                · subst ey
                  have hlen : accV.length < sizeLine := by
                    rw [← ra4.length, line_eq]
                    have := hall
                    rw [← eall, ← el1] at this
                    simp only [List.length_append, List.length_cons, List.length_nil] at this
                    omega
                  obtain ⟨gU, hU⟩ := gg.turnD (o := .lst (accV ++ [v])) nD h4 nF4 nρ4
                  refine ⟨accV, hD4, hlen, ?_⟩
                  rw [hInv]
                  exact ⟨F4, ρ4, st3, acc ++ [y], accV ++ [v], zs', gU, hU, upd_same, nF4, nρ4, ra4.snoc ry, q3, by rw [← eall, ← el1]; simp⟩
/-- its reading -/
theorem rd_lcW {tl : TE} {tg : TG} {tt : TT} {te : TE} {mg : MG} {src : ME} {ifs : List MT} {elt : ME} {own : List Nat} {live : Bool}
    (hi : RdE M X.K W tl (evE S src)) (hg : RdG M X.K tg mg) (hsub : ∀ i ∈ slotsG mg, i ∈ own)
    (hb : RdTurn M X.K tt te fun φ st => evIf S ifs φ st fun st => R.bs (evE S elt φ st) fun y st => some (.ok [y] st)) :
    RdE M X.K W (tLc (iList X.K tl) tg tt te own) (evE S (.lcW live elt mg src ifs own)) := by
  intro σ H Q φ F ρ st r hh hs e post
  unfold tLc
  simp only [evE] at e
  show tl σ H _
  refine hi.bind hh hs e post fun v st1 F1 ρ1 H1 w e1 g1 h1 r1 p1 => ?_
  cases v with
  | pv _ => simp at e1
  | tup _ => simp at e1
  | exn _ => simp at e1
  | ref n =>
    simp only at e1
    simp only [RL] at r1
    obtain ⟨a, ew, ea⟩ := r1
    subst ew
    split at e1
    · rename_i all stE ql
      have there : ∃ xs, SqL X.K H1 a xs := by
        obtain ⟨c, ec, hc⟩ := h1.at ea
        unfold walkF at ql
        rw [ec] at ql
        cases c with
        | lst live ys => obtain ⟨vs, h1, _⟩ := hc; exact ⟨vs, .inl (.inl h1)⟩
        | dk _ _ => simp [lcWalk] at ql
        | dt _ _ => simp [lcWalk] at ql
        | ins _ _ => simp [lcWalk] at ql
      refine ⟨a, rfl, there, ?_⟩
      intro D nD
      have hall : all.length ≤ line := by
        unfold mkLst at e1
        split at e1
        · assumption
        · cases e1
      refine lc_walk (body := fun φ st => evIf S ifs φ st fun st => R.bs (evE S elt φ st) fun y st => some (.ok [y] st)) (fun x st => rfl) hg hsub hb h1 (hs.g g1) ea nD ql hall fun F2 ρ2 H2 accV g2 h2 hD nF nρ ra => ?_
      exact mkLst_ok e1 p1 g2 nD h2 hD nF nρ ra
    · cases e1
theorem comps_eq {gs : List Comprehension} {t it : Expr} {is : List Expr} (hc : comps gs = some (t, it, is)) : gs = [⟨t, it, is, 0⟩] := by
  unfold comps at hc
  split at hc
  · split at hc
    · rename_i ha
      simp only [Option.some.injEq, Prod.mk.injEq] at hc
      obtain ⟨e1, e2, e3⟩ := hc
      subst e1 e2 e3 ha; rfl
    · cases hc
  · cases hc
theorem own_map {N : List Str} : ∀ (own : List Nat) (ow : List (Str × Nat)), ownOf N own = some ow → ow.map (·.2) = own := by
  intro own
  induction own with
  | nil => intro ow e; simp only [ownOf, Option.some.injEq] at e; subst e; rfl
  | cons i r ih =>
    intro ow e
    unfold ownOf at e
    split at e
    · simp only [Option.map_eq_some_iff] at e
      obtain ⟨ow', e1, e2⟩ := e
      subst e2
      simp [ih ow' e1]
    · cases e
end
end Z
end

section
/-! ZN: every expression that the look accepts does what the semantics says. -/
namespace Z
open PySem PySem.Spec PyProof.Rows L2
section
variable {X : Cx} {g : SC} {M : Nm} {S : Sem} {W : WX} {k : Nat}
/-! ### single constructs -/
theorem rd_var (i : Nat) : RdE M X.K W (tVar i) (evE S (.var i)) := by
  intro σ H Q φ F ρ st r hh hs e p
  simp only [evE] at e
  split at e
  · cases e
  · rename_i v hx hv
    simp only [Option.some.injEq] at e
    subst e
    obtain ⟨u, h1, h2⟩ := hs.2 i v hv
    exact ⟨u, h1, p.here hh (h2.rl fun e z => hx e z)⟩
  · cases e
theorem lit_ok {p : PV} {c : Const} {n : Nat} {pos : Pos} (h : litOk p c = true) : ∃ v, PE X (.Constant c n pos) (tC v) ∧ RP X.K (fun _ => none) p v := by
  cases p <;> cases c <;> simp only [litOk, Bool.and_eq_true, decide_eq_true_eq, beq_iff_eq, reduceCtorEq, Bool.false_eq_true] at h
  · exact ⟨_, pe_non, by simp only [RP]⟩
  · subst h; exact ⟨_, pe_bl, by simp only [RP]⟩
  · subst h; exact ⟨_, pe_int, by simp only [RP]⟩
  · obtain ⟨h1, h2⟩ := h
    subst h1
    exact ⟨_, pe_str, by simp only [RP, true_and]; exact h2⟩
theorem rd_const {p : PV} {v : V} {f : Slots → Store → Option ER} (r : RP X.K (fun _ => none) p v) (hf : ∀ φ st, f φ st = some (.ok (.pv p) st) ∨ f φ st = none) : RdE M X.K W (tC v) f := by
  intro σ H Q φ F ρ st res hh hs e post
  rcases hf φ st with h | h
  · rw [h] at e
    simp only [Option.some.injEq] at e
    subst e
    exact post.tree hh (RP.mono (fun b o z => by cases z) _ _ r)
  · rw [h] at e; cases e
theorem rd_tup {t : TA} {ms : List ME} (h : RdA M X.K W t (evEs S ms)) : RdE M X.K W (tTup t) (evE S (.tup ms)) := by
  intro σ H Q φ F ρ st r hh hs e p
  simp only [evE] at e
  refine h.bind hh hs e p fun xs st1 F1 ρ1 H1 vs e1 g1 h1 r1 p1 => ?_
  split at e1
  · rename_i hl
    simp only [Option.some.injEq] at e1
    subst e1
    refine ⟨by rw [← r1.length, line_eq]; exact hl, fun a na => ?_⟩
    obtain ⟨g2, h2⟩ := h1.new na (.tup vs)
    exact p1 _ _ _ _ g2 h2 (RL_mkTup (RLs.mono g2.sub g2.pre _ _ r1) upd_same)
  · cases e1
theorem rd_lst {t : TA} {ms : List ME} {live : Bool} (h : RdA M X.K W t (evEs S ms)) : RdE M X.K W (tLst t) (evE S (.lst live ms)) := by
  intro σ H Q φ F ρ st r hh hs e p
  simp only [evE] at e
  refine h.bind hh hs e p fun xs st1 F1 ρ1 H1 vs e1 g1 h1 r1 p1 => ?_
  have hl : xs.length ≤ line := by
    unfold mkLst at e1
    split at e1
    · assumption
    · cases e1
  refine ⟨by rw [← r1.length, line_eq]; exact hl, fun a na => ?_⟩
  obtain ⟨g2, h2⟩ := h1.laid na (.lst vs)
  exact mkLst_ok e1 p1 g2 na h2 upd_same (h1.fresh na) (h1.notin na) (RLs.mono g2.sub g2.pre _ _ r1)
theorem rd_dnew (t : Bool) : RdE M X.K W (if t then tDNewT else tDNewK) (evE S (.dnew t)) := by
  intro σ H Q φ F ρ st r hh hs e p
  simp only [evE, Option.some.injEq] at e
  subst e
  cases t with
  | true =>
    show tDNewT σ H Q
    intro a na
    obtain ⟨g2, h2⟩ := hh.cellN na (o := .dT []) (c := .dt true []) ⟨[], upd_same, by simp only [RLt], fun _ => hh.fresh na, fun z => Bool.noConfusion z⟩
    refine p _ _ _ _ g2 (by simpa using h2) ?_
    simp only [RL]
    exact ⟨a, rfl, by rw [← hh.len, List.getElem?_append_right (Nat.le_refl _)]; simp⟩
  | false =>
    show tDNewK σ H Q
    intro a na
    obtain ⟨g2, h2⟩ := hh.cellN na (o := .dK []) (c := .dk true []) ⟨[], upd_same, by simp only [RLk], fun _ => hh.fresh na, fun z => Bool.noConfusion z⟩
    refine p _ _ _ _ g2 (by simpa using h2) ?_
    simp only [RL]
    exact ⟨a, rfl, by rw [← hh.len, List.getElem?_append_right (Nat.le_refl _)]; simp⟩
theorem rd_neg {t : TE} {f : Slots → Store → Option ER} (h : RdE M X.K W t f) : RdE M X.K W (tUn (rU fun i => .int (-i)) t) fun φ st => R.bind (f φ st) fun x st => match x with
    | .pv (.int i) => some (.ok (.pv (.int (-i))) st)
    | _ => none := by
  intro σ H Q φ F ρ st r hh hs e p
  refine h.bind hh hs e p fun x st1 F1 ρ1 H1 v e1 g1 h1 r1 p1 => ?_
  split at e1
  · simp only [Option.some.injEq] at e1
    subst e1
    simp only [RL, RP] at r1
    exact ⟨_, r1, p1.tree h1 (by simp only [RP])⟩
  · cases e1
theorem rd_ite {tc : TT} {ta tb : TE} {fc : Slots → Store → Option ET} {fa fb : Slots → Store → Option ER} (hc : RdT M X.K W tc fc) (ha : RdE M X.K W ta fa) (hb : RdE M X.K W tb fb) :
    RdE M X.K W (tIf tc ta tb) fun φ st => T.bind (fc φ st) fun d st => if d then fa φ st else fb φ st := by
  intro σ H Q φ F ρ st r hh hs e p
  refine hc.bind hh hs e p fun d st1 F1 ρ1 H1 e1 g1 h1 p1 => ?_
  cases d with
  | true =>
    rw [if_pos rfl] at e1 ⊢
    exact ha σ H1 Q φ F1 ρ1 st1 r h1 (hs.g g1) e1 p1
  | false =>
    rw [if_neg Bool.false_ne_true] at e1 ⊢
    exact hb σ H1 Q φ F1 ρ1 st1 r h1 (hs.g g1) e1 p1
def tIsNB (neg : Bool) (t : TE) : TE := tOp (fun x y H Q => y = .non ∧ Q (.bl (neg ^^ decide (x = .non))) H) t (tC .non)
theorem RL_non {F : Hp} {ρ : List Addr} {K : PySem.W.Frag} : ∀ {x : LV} {v : V}, RL K F ρ x v → (v = .non ↔ x = .pv .non)
  | .pv .non, v, h => by simp only [RL, RP] at h; subst h; simp
  | .pv (.bl b), v, h => by simp only [RL, RP] at h; subst h; simp
  | .pv (.int b), v, h => by simp only [RL, RP] at h; subst h; simp
  | .pv (.str b), v, h => by simp only [RL, RP] at h; obtain ⟨h, _⟩ := h; subst h; simp
  | .pv (.tup b), v, h => by simp only [RL, RP] at h; obtain ⟨a, vs, h, _⟩ := h; subst h; simp
  | .pv (.lst b), v, h => by simp only [RL, RP] at h; obtain ⟨a, vs, h, _⟩ := h; subst h; simp
  | .pv (.dk b), v, h => by simp only [RL, RP] at h; obtain ⟨a, vs, h, _⟩ := h; subst h; simp
  | .pv (.dt b), v, h => by simp only [RL, RP] at h; obtain ⟨a, vs, h, _⟩ := h; subst h; simp
  | .pv (.scr b), v, h => by simp only [RL, RP] at h; obtain ⟨a, h, _⟩ := h; subst h; simp
  | .ref n, v, h => by simp only [RL] at h; obtain ⟨a, h, _⟩ := h; subst h; simp
  | .tup xs, v, h => by simp only [RL] at h; obtain ⟨a, vs, h, _⟩ := h; subst h; simp
theorem rd_isn {t : TE} {f : Slots → Store → Option ER} {neg : Bool} (h : RdE M X.K W t f) : RdE M X.K W (tIsNB neg t) fun φ st => R.bind (f φ st) fun x st => match x with
    | .pv .non => some (.ok (.pv (.bl (!neg))) st)
    | _ => some (.ok (.pv (.bl neg)) st) := by
  intro σ H Q φ F ρ st r hh hs e p
  refine h.bind hh hs e p fun x st1 F1 ρ1 H1 v e1 g1 h1 r1 p1 => ⟨rfl, ?_⟩
  have hn := RL_non r1
  split at e1
  · simp only [Option.some.injEq] at e1
    subst e1
    rw [decide_eq_true (hn.mpr rfl), Bool.xor_true]
    exact p1.tree h1 (by simp only [RP])
  · rename_i hx
    simp only [Option.some.injEq] at e1
    subst e1
    rw [decide_eq_false (fun z => hx (hn.mp z)), Bool.xor_false]
    exact p1.tree h1 (by simp only [RP])
theorem op_isNB (neg : Bool) : OpR X (compareOp (if neg then CmpOp.IsNot else CmpOp.Is)) (fun x y H Q => y = .non ∧ Q (.bl (neg ^^ decide (x = .non))) H) := by
  cases neg with
  | true => simpa using op_notN (X := X)
  | false => simpa using op_isN (X := X)
def tTru (K : PySem.W.Frag) (t : TE) : TT := fun σ H Q => t σ H fun x H' => ∃ k, TruV K x H' k ∧ Q k H'
theorem rd_tru1 {t : TE} {f : Slots → Store → Option ER} (h : RdE M X.K W t f) : RdT M X.K W (tTru X.K t) fun φ st => R.bt (f φ st) fun v st => (truL v st).map fun b => .ok b st := by
  intro σ H Q φ F ρ st r hh hs e p
  refine h.bindT hh hs e p fun x st1 F1 ρ1 H1 v e1 g1 h1 r1 p1 => ?_
  simp only [Option.map_eq_some_iff] at e1
  obtain ⟨b, e2, e3⟩ := e1
  subst e3
  exact ⟨b, rd_truL h1 r1 e2, p1 F1 ρ1 H1 (G.refl _ _ _) h1⟩
/-- a bool as a test -/
theorem rd_test {t : TE} {f : Slots → Store → Option ER} (h : RdE M X.K W t f) (hb : ∀ φ st x st', f φ st = some (.ok x st') → ∃ b, x = .pv (.bl b)) : RdT M X.K W (tTest t) fun φ st => R.bt (f φ st) fun v st => (truL v st).map fun b => .ok b st := by
  intro σ H Q φ F ρ st r hh hs e p
  simp only at e
  cases q : f φ st with
  | none => rw [q] at e; cases e
  | some a =>
    rw [q] at e
    cases a with
    | ex x st1 =>
      have e' : r = .ex x st1 := (Option.some.inj e).symm
      subst e'
      exact h σ H _ φ F ρ st _ hh hs q p
    | ok x st1 =>
      obtain ⟨b, hx⟩ := hb φ st x st1 q
      subst hx
      simp only [R.bt, truL, lenL, peek, tru, Option.map_some, Option.some.injEq] at e
      subst e
      refine h σ H _ φ F ρ st _ hh hs q fun F1 ρ1 H1 v g1 h1 r1 => ?_
      simp only [RL, RP] at r1
      exact ⟨b, r1, p F1 ρ1 H1 g1 h1⟩
theorem rd_notT {t : TT} {f : Slots → Store → Option ET} (h : RdT M X.K W t f) : RdT M X.K W (tNot t) fun φ st => T.bt (f φ st) fun b st => some (.ok (!b) st) := by
  intro σ H Q φ F ρ st r hh hs e p
  refine h.bindT hh hs e p fun d st1 F1 ρ1 H1 e1 g1 h1 p1 => ?_
  simp only [Option.some.injEq] at e1
  subst e1
  exact p1 F1 ρ1 H1 (G.refl _ _ _) h1
/-- not t, as a value -/
def tNotE (t : TT) : TE := fun σ H Q => t σ H fun b H1 => Q (.bl (!b)) H1
theorem cmp_bool {op : CO} {x y : LV} {st st' : Store} {z : LV} (e : cmp op x y st = some (.ok z st')) : ∃ b, z = .pv (.bl b) := by
  unfold cmp at e
  split at e
  · simp only [Option.map_eq_some_iff, ER.ok.injEq] at e
    obtain ⟨c, _, e1, _⟩ := e
    exact ⟨c, e1.symm⟩
  · cases e
theorem bind_bool {f : Slots → Store → Option ER} {gg : LV → Store → Option ER} (h : ∀ x st y st', gg x st = some (.ok y st') → ∃ b, y = .pv (.bl b)) {φ : Slots} {st st' : Store} {y : LV} (e : R.bind (f φ st) gg = some (.ok y st')) : ∃ b, y = .pv (.bl b) := by
  unfold R.bind at e
  split at e
  · exact h _ _ _ _ e
  · cases e
  · cases e
/-- the slice -/
theorem sIx_eq (n d : Nat) (o : Option Int) : HT.sIx n d o = sIx n d o := by
  cases o with
  | none => rfl
  | some v => rfl
theorem cutV_ok {K : PySem.W.Frag} {F : Hp} {xs : List PV} {vs : List V} (h : RPs K F xs vs) (lo hi : Option Int) : RPs K F (cut xs lo hi) (cutV vs lo hi) := by
  unfold cutV cut
  rw [sIx_eq, sIx_eq, ← h.length]
  exact (h.drop _).take _
def RdO (M : Nm) (K : PySem.W.Frag) (W : WX) (t : TO) (there : Bool) (f : Slots → Store → Option ER) : Prop := ∀ σ H (Q : Option Int → Hp → Prop) φ F ρ st r, HR' M K F ρ H st → SL M K F ρ σ φ → f φ st = some r →
  (match r with
    | .ok x st1 => ∃ o, optL there x = some o ∧ ∀ F1 ρ1 H1, G F ρ H F1 ρ1 H1 → HR' M K F1 ρ1 H1 st1 → Q o H1
    | .ex e st1 => ∀ F' ρ' H' cls d, G F ρ H F' ρ' H' → HR' M K F' ρ' H' st1 → RX M K F' H' e cls d → W cls d σ H') → t σ H Q
theorem rdo_none : RdO M X.K W tNoPart false fun φ st => some (.ok (.pv .non) st) := by
  intro σ H Q φ F ρ st r hh hs e p
  simp only [Option.some.injEq] at e
  subst e
  obtain ⟨o, h1, h2⟩ := p
  simp only [optL, Bool.false_eq_true, if_false, Option.some.injEq] at h1
  subst h1
  exact h2 F ρ H (G.refl _ _ _) hh
theorem rdo_some {t : TE} {f : Slots → Store → Option ER} (h : RdE M X.K W t f) : RdO M X.K W (tPart t) true f := by
  intro σ H Q φ F ρ st r hh hs e p
  cases r with
  | ex x st1 => exact h σ H _ φ F ρ st _ hh hs e p
  | ok x st1 =>
    obtain ⟨o, h1, h2⟩ := p
    refine h σ H _ φ F ρ st _ hh hs e fun F1 ρ1 H1 v g1 hh1 r1 => ?_
    simp only [optL, if_true] at h1
    split at h1
    · simp only [Option.some.injEq] at h1
      subst h1
      simp only [RL, RP] at r1
      exact ⟨_, r1, h2 F1 ρ1 H1 g1 hh1⟩
    · cases h1
def rSlW (K : PySem.W.Frag) : V → Option Int → Option Int → Hp → VK → Prop := fun x lo hi H Q => rSlL K x lo hi H Q ∨ rSlA K x lo hi H Q ∨ rSlS x lo hi H Q
theorem sl_W : SlR X (rSlW X.K) := sl_list.or (sl_tupA.or sl_str)
theorem cutS_ok (x : Sg) (lo hi : Option Int) : cutS (mkS x) lo hi = mkS (cut x lo hi) := by
  have ix : ∀ (n d : Nat) (o : Option Int), HT.sIx n d o = sIx n d o := fun n d o => by cases o <;> rfl
  unfold cutS mkS cut
  rw [ix, ix]
  simp [Str.length]
theorem okS_cut {x : Sg} (h : okS x = true) (lo hi : Option Int) : okS (cut x lo hi) = true := by
  unfold okS cut at *
  rw [List.all_eq_true] at h ⊢
  exact fun c hc => h c (List.mem_of_mem_drop (List.mem_of_mem_take hc))
/-! ### a tuple turned round -/
section
open PySem
variable {prog : Program} {w : World} {A : Around} {E : Value → Shared → Prop} {s : Shared}
theorem sliceApplied_rev {sl : Addr} {vl vu vs : Value} {n : Nat} {Q : Int × Int × Nat → Shared → Prop} (hs : s.heap.IsSliceOf sl vl vu vs) (pl : IsPart vl none) (pu : IsPart vu none) (ps : IsPart vs (some (-1)))
    (h : Q ((n : Int) - 1, -1, n) s) : wpAny (model prog w) A (Builtin.Slice.sliceApplied (.ref sl) (pure (n : Int))) Q E s := by
  obtain ⟨os, hos, hcs, hds⟩ := id hs
  unfold Builtin.Slice.sliceApplied Builtin.Slice.sliceFields
  refine wpAny_bind (wpAny_bind (wpAny_field hos hds (x := vl) rfl (wpAny_bind (wpAny_field hos hds (x := vu) rfl (wpAny_bind (wpAny_field hos hds (x := vs) rfl (wpAny_pure ?_)))))))
  refine wpAny_bind (HT.slicePart_ ps ?_)
  show wpAny _ _ (if ((-1 : Int) == 0) = true then _ else _) _ _ s
  rw [if_neg (by decide)]
  refine wpAny_bind (HT.slicePart_ pl (wpAny_bind (HT.slicePart_ pu (wpAny_bind (wpAny_pure ?_)))))
  show wpAny _ _ (match Builtin.Slice.sliceAdjust none none (-1) (n : Int) with | (lo, hi) => pure (lo, (-1 : Int), Builtin.Slice.slicePlaces lo hi (-1))) _ _ s
  have e1 : Builtin.Slice.sliceAdjust none none (-1) (n : Int) = ((n : Int) - 1, -1) := rfl
  rw [e1]
  show wpAny _ _ (pure ((n : Int) - 1, (-1 : Int), Builtin.Slice.slicePlaces ((n : Int) - 1) (-1) (-1))) _ _ s
  have e2 : Builtin.Slice.slicePlaces ((n : Int) - 1) (-1) (-1) = n := by
    unfold Builtin.Slice.slicePlaces
    simp
    try omega
  rw [e2]
  exact wpAny_pure h
theorem pick_rev (xs : Array Value) : ((List.range xs.size).filterMap fun (m : Nat) => xs[(((xs.size : Int) - 1) + (m : Int) * (-1)).toNat]?).toArray = xs.toList.reverse.toArray := by
  congr 1
  have e : ∀ ms : List Nat, (∀ m ∈ ms, m < xs.size) → ms.filterMap (fun (m : Nat) => xs[(((xs.size : Int) - 1) + (m : Int) * (-1)).toNat]?) = ms.filterMap (fun m => xs.toList.reverse[m]?) := by
    intro ms
    induction ms with
    | nil => intro _; rfl
    | cons m ms ih =>
      intro h
      have hm' : m < xs.size := h m (by simp)
      have e1 : (((xs.size : Int) - 1) + (m : Int) * (-1)).toNat = xs.size - 1 - m := by omega
      rw [List.filterMap_cons, List.filterMap_cons, ih fun k hk => h k (by simp [hk]), e1, List.getElem?_reverse (by simpa using hm'), Array.getElem?_toList, Array.length_toList]
  rw [e _ fun m hm => List.mem_range.mp hm]
  have : ∀ (l pre : List Value), (List.range' pre.length l.length).filterMap (fun m => (pre ++ l)[m]?) = l := by
    intro l
    induction l with
    | nil => intro pre; simp
    | cons x l ih =>
      intro pre
      have := ih (pre ++ [x])
      rw [List.length_append, List.append_assoc] at this
      rw [List.length_cons, List.range'_succ, List.filterMap_cons]
      have e0 : (pre ++ x :: l)[pre.length]? = some x := by simp
      rw [e0]
      simp only
      exact congrArg _ this
  have h := this xs.toList.reverse []
  rw [List.length_reverse, Array.length_toList] at h
  rw [List.range_eq_range']
  exact h
theorem getItem_tuple_rev {t sl : Addr} {items : Array Value} {vl vu vs : Value} {Q : Value → Shared → Prop} (ht : IsTup s.heap t items) (hs : s.heap.IsSliceOf sl vl vu vs) (pl : IsPart vl none) (pu : IsPart vu none) (ps : IsPart vs (some (-1)))
    (h : Q (.ref s.heap.objs.size) { s with heap := s.heap.push { cls := .type "tuple", data := .seq items.toList.reverse.toArray } })
    (hsz : items.size ≤ sizeLine) : wpAny (model prog w) A (getItem (.ref t) (.ref sl)) Q E s := by
  have htake : sizeOk (.seq items.toList.reverse.toArray) := by
    show items.toList.reverse.toArray.size ≤ sizeLine
    rw [List.size_toArray, List.length_reverse, Array.length_toList]
    exact hsz
  obtain ⟨os, hos, hcs, hds⟩ := id hs
  have hTs : s.TypeIs (.ref sl) "slice" := ⟨os, hos, hcs⟩
  unfold getItem
  try with_reducible refine wpAny_holding ?_
  first | refine wpAny_bind (wpAny_pure ?_) | skip
  refine wpAny_bind (wpAny_sequenceKey ht.typeIs (by decide) ?_)
  refine wpAny_bind (wpAny_callSpecial?_slot (name := Str.ofString "__getitem__") ht.typeIs PyProof.Rows.slot_tuple_getitem
    (wpAny_call_entry PyProof.Rows.slot_tuple_getitem ht.typeIs entry_tuple_getitem ?_ (args_tuple_getitem _ _)))
  show wpAny _ _ (Builtin.Tuple.tupleItemsOf (.ref t) >>= _) _ _ s
  refine wpAny_bind (tupleItemsOf_ ht ?_)
  refine wpAny_bind (wpAny_typeOf hTs ?_)
  rw [if_pos (by decide)]
  refine wpAny_bind (sliceApplied_rev hs pl pu ps ?_)
  show wpAny _ _ (if (((items.size : Int) - 1) == 0 && (-1 : Int) == 1 && items.size == items.size) = true then _ else _) _ _ s
  rw [if_neg (by simp), pick_rev]
  first
    | exact wpAny_bind (m := Builtin.Tuple.tupleExact _) (wpAny_newObj_type (wpAny_pure ⟨_, rfl, wpAny_pure h⟩) htake)
    | exact wpAny_bind (m := Builtin.Tuple.tupleExact _) (wpAny_newObj_type (wpAny_bind (wpAny_pure (wpAny_pure ⟨_, rfl, wpAny_pure h⟩))) htake)
    | exact wpAny_bind (wpAny_bind (m := Builtin.Tuple.tupleExact _) (wpAny_newObj_type (wpAny_pure (wpAny_pure ⟨_, rfl, wpAny_pure h⟩)) htake))
    | exact wpAny_bind (wpAny_bind (m := Builtin.Tuple.tupleExact _) (wpAny_newObj_type (wpAny_pure ⟨_, rfl, wpAny_pure h⟩) htake))
end
def tRevT (K : PySem.W.Frag) (te : TE) : TE := fun σ H Q => te σ H fun x H1 => ∃ a xs, x = .ref a ∧ SqT K H1 a xs ∧ ∀ p, H1 p = none → Q (.ref p) (upd H1 p (.tup xs.reverse))
theorem pe_revT {X : Cx} {e : Expr} {te : TE} {k : Nat} {p1 p2 p3 pos : Pos} (he : PE X e te) : PE X (.Subscript e (.Slice none none (some (.UnaryOp .USub (.Constant (.int 1) k p1) p2)) p3) pos) (tRevT X.K te) := by
  refine ⟨fun pins s σ H Q I h => ?_⟩
  refine Subscript_ (thn (he.run pins s σ H _ I h) fun v s1 ⟨x, H1, I1, r1, q1⟩ => ?_)
  obtain ⟨a, xs, ex, hx, q⟩ := q1
  subst ex
  cases r1
  have hst : PO X (some (.UnaryOp .USub (.Constant (.int 1) k p1) p2)) (tPart (tUn (rU fun i => .int (-i)) (tC (.int 1)))) := po_some (pe_un un_neg pe_int)
  refine wpAny_Slice (thn (po_none.run pins s1 σ H1 (fun o H2 => o = none ∧ H2 = H1) I1 ⟨rfl, rfl⟩) fun vl s2 ⟨l, H2, I2, pl, el, e2⟩ => ?_)
  subst el e2
  refine thn (po_none.run pins s2 σ H2 (fun o H3 => o = none ∧ H3 = H2) I2 ⟨rfl, rfl⟩) fun vu s3 ⟨u, H3, I3, pu, eu, e3⟩ => ?_
  subst eu e3
  refine thn (hst.run pins s3 σ H3 (fun o H4 => o = some (-1) ∧ H4 = H3) I3 ⟨1, rfl, -1, rfl, rfl, rfl⟩) fun vs s4 ⟨o, H4, I4, ps, eo, e4⟩ => ?_
  subst eo e4
  have I5 : Inv X pins σ H4 { s4 with heap := s4.heap.push { cls := .type "slice", data := .fields #[vl, vu, vs] } } := I4.kept (t' := s4.toks) fun b ob q => Heap.get?_push_of_some _ q
  obtain ⟨its, r, ht, hz⟩ := I5.tuple hx
  have hlen := r.length
  show wpAny (model X.prog X.w) X.A (subscriptTail e (.Slice none none (some (.UnaryOp .USub (.Constant (.int 1) k p1) p2)) p3) (.ref a) (.ref s4.heap.objs.size)) (EP X pins σ Q) X.xe { s4 with heap := s4.heap.push { cls := .type "slice", data := .fields #[vl, vu, vs] } }
  refine tail_any (ops := [.ref a, .ref s4.heap.objs.size]) ht.typeIs (PyProof.Rows.slot_tuple_getitem.lookup) ?_ (by with_unfolding_all rfl)
  refine getItem_tuple_rev ht (Heap.IsSliceOf.new _ vl vu vs) pl pu ps ?_ (by rw [List.size_toArray]; omega)
  refine ⟨.ref _, _, I5.laid (t' := s4.toks) (o := .tup xs.reverse) (fun b ob q => Heap.get?_push_of_some _ q) (Nat.le_refl _) ?_, rfl, q _ (I5.hok.fresh (Nat.le_refl _))⟩
  exact ⟨by rw [List.length_reverse]; exact hz, _, r.reverse, IsTup.new _ _⟩
theorem pe_or2 {X : Cx} {e : Expr} {t t' : TE} (h : PE X e t) (h' : PE X e t') : PE X e (fun σ H Q => t σ H Q ∨ t' σ H Q) := ⟨fun pins s σ H Q I q => q.elim (h.run pins s σ H Q I) (h'.run pins s σ H Q I)⟩
theorem RPs.rev {K : PySem.W.Frag} {F : Hp} : ∀ {xs : List PV} {vs : List V}, RPs K F xs vs → RPs K F xs.reverse vs.reverse
  | [], vs, h => by simp only [RPs] at h; subst h; simp [RPs]
  | x :: xs, vs, h => by
    simp only [RPs] at h
    obtain ⟨v, r, e1, e2, e3⟩ := h
    subst e1
    rw [List.reverse_cons, List.reverse_cons]
    exact (RPs.rev e3).append (by simp only [RPs]; exact ⟨v, [], rfl, e2, rfl⟩)
theorem rd_rev {ta : TE} {fa : Slots → Store → Option ER} (ha : RdE M X.K W ta fa) : RdE M X.K W (fun σ H Q => tRevS ta σ H Q ∨ tRevT X.K ta σ H Q ∨ tRevL X.K ta σ H Q) (fun φ st => R.bind (fa φ st) fun x st => match x with
    | .pv (.str s) => if s.length ≤ 2 then some (.ok (.pv (.str s.reverse)) st) else none
    | .pv (.tup xs) => if xs.length ≤ line then some (.ok (.pv (.tup xs.reverse)) st) else none
    | .pv (.lst xs) => some (.ok (.pv (.lst xs.reverse)) st)
    | _ => none) := by
  intro σ H Q φ F ρ st r hh hs e p
  simp only at e
  cases q : fa φ st with
  | none => rw [q] at e; cases e
  | some ra =>
  rw [q] at e
  cases ra with
  | ex x st1 =>
    cases e
    exact .inl (ha σ H _ φ F ρ st _ hh hs q p)
  | ok y st1 =>
  simp only [R.bind] at e
  match y, e, q with
  | .pv (.str s), e1, q =>
    simp only at e1
    split at e1
    · rename_i hl
      simp only [Option.some.injEq] at e1
      subst e1
      refine .inl (ha σ H _ φ F ρ st _ hh hs q fun F1 ρ1 H1 v g1 h1 r1 => ?_)
      simp only [RL, RP] at r1
      obtain ⟨rv, ok⟩ := r1
      refine ⟨mkS s, rv, by rw [mkS_len]; exact hl, (p.g g1).tree h1 ?_⟩
      simp only [RP]
      refine ⟨by unfold revS mkS; simp, ?_⟩
      simp only [okS, List.all_eq_true, List.mem_reverse] at ok ⊢
      exact ok
    · cases e1
  | .pv (.tup xs), e1, q =>
    simp only at e1
    split at e1
    · rename_i hl
      simp only [Option.some.injEq] at e1
      subst e1
      refine .inr (.inl (ha σ H _ φ F ρ st _ hh hs q fun F1 ρ1 H1 v g1 h1 r1 => ?_))
      simp only [RL, RP] at r1
      obtain ⟨a, vs, ea, eb, ec⟩ := r1
      subst ea
      refine ⟨a, vs, rfl, .inl (.inl (h1.sub _ _ eb)), fun b nb => (p.g g1).made h1 nb ?_⟩
      simp only [RP]
      exact ⟨b, _, rfl, upd_same, RPs.mono (sub_upd (h1.fresh nb)) _ _ ec.rev⟩
    · cases e1
  | .pv (.lst xs), e1, q =>
    simp only [Option.some.injEq] at e1
    subst e1
    refine .inr (.inr (ha σ H _ φ F ρ st _ hh hs q fun F1 ρ1 H1 v g1 h1 r1 => ?_))
    simp only [RL, RP] at r1
    obtain ⟨a, vs, ea, eb, ec⟩ := r1
    subst ea
    refine ⟨a, vs, rfl, .inl (.inl (h1.sub _ _ eb)), fun b nb => (p.g g1).made h1 nb ?_⟩
    simp only [RP]
    exact ⟨b, _, rfl, upd_same, RPs.mono (sub_upd (h1.fresh nb)) _ _ ec.rev⟩
  | .pv .non, e1, _ => cases e1
  | .pv (.bl _), e1, _ => cases e1
  | .pv (.int _), e1, _ => cases e1
  | .pv (.dk _), e1, _ => cases e1
  | .pv (.dt _), e1, _ => cases e1
  | .pv (.scr _), e1, _ => cases e1
  | .ref _, e1, _ => cases e1
  | .tup _, e1, _ => cases e1
  | .exn _, e1, _ => cases e1
theorem rd_slc {ta : TE} {tl th : TO} {fa fl fh : Slots → Store → Option ER} {l h : Bool} (ha : RdE M X.K W ta fa) (hl : RdO M X.K W tl l fl) (hu : RdO M X.K W th h fh) :
    RdE M X.K W (tSl (rSlW X.K) ta tl th) fun φ st => R.bind (fa φ st) fun x st => R.bind (fl φ st) fun lv st => match optL l lv with
      | some lo => R.bind (fh φ st) fun hv st => match optL h hv, peek st x with
        | some hi, some x => okP st (doSlc x lo hi)
        | _, _ => none
      | none => none := by
  intro σ H Q φ F ρ st r hh hs e p
  refine ha.bind hh hs e p fun x st1 F1 ρ1 H1 v e1 g1 h1 r1 p1 => ?_
  have hs1 := hs.g g1
  cases ql : fl φ st1 with
  | none => rw [ql] at e1; cases e1
  | some rl =>
    rw [ql] at e1
    cases rl with
    | ex y st2 =>
      have e' : r = .ex y st2 := (Option.some.inj e1).symm
      subst e'
      exact hl σ H1 _ φ F1 ρ1 st1 _ h1 hs1 ql p1
    | ok y st2 =>
      simp only [R.bind] at e1
      split at e1
      · rename_i lo elo
        refine hl σ H1 _ φ F1 ρ1 st1 _ h1 hs1 ql ⟨lo, elo, fun F2 ρ2 H2 g2 h2 => ?_⟩
        have hs2 := hs1.g g2
        have p2 := p1.g g2
        cases qh : fh φ st2 with
        | none => rw [qh] at e1; cases e1
        | some rh =>
          rw [qh] at e1
          cases rh with
          | ex z st3 =>
            have e' : r = .ex z st3 := (Option.some.inj e1).symm
            subst e'
            exact hu σ H2 _ φ F2 ρ2 st2 _ h2 hs2 qh p2
          | ok z st3 =>
            simp only at e1
            split at e1
            · rename_i hi px ehi epx
              refine hu σ H2 _ φ F2 ρ2 st2 _ h2 hs2 qh ⟨hi, ehi, fun F3 ρ3 H3 g3 h3 => ?_⟩
              have p3 := p2.g g3
              have r3 := RL.mono (g2.trans g3).sub (g2.trans g3).pre _ _ r1
              have hk := peek_ok h3 r3 epx
              cases px <;> simp only [doSlc, okP, Option.some.injEq, reduceCtorEq] at e1
              case lst xs =>
                subst e1
                obtain ⟨a, vs, ea, eb, ec⟩ := hk
                refine .inl ⟨a, vs, ea, .inl (.inl eb), fun b nb => p3.made h3 nb ?_⟩
                simp only [RP]
                exact ⟨b, _, rfl, upd_same, RPs.mono (sub_upd (h3.fresh nb)) _ _ (cutV_ok ec lo hi)⟩
              case tup xs =>
                subst e1
                simp only [PK, RP] at hk
                obtain ⟨a, vs, ea, eb, ec⟩ := hk
                refine .inr (.inl ⟨a, vs, ea, .inl (.inl (h3.sub _ _ eb)), fun hw => ?_, fun _ b nb => p3.made h3 nb ?_⟩)
                · subst ea
                  have ew : cut xs lo hi = xs := by
                    rw [← ec.length] at hw
                    have ix : ∀ (n d : Nat) (o : Option Int), HT.sIx n d o = sIx n d o := fun n d o => by cases o <;> rfl
                    rw [ix, ix] at hw
                    unfold cut
                    rw [hw.1, hw.2]
                    simp
                  exact p3.tree h3 (by rw [ew]; simp only [RP]; exact ⟨a, vs, rfl, eb, ec⟩)
                · simp only [RP]
                  exact ⟨b, _, rfl, upd_same, RPs.mono (sub_upd (h3.fresh nb)) _ _ (cutV_ok ec lo hi)⟩
              case str x =>
                split at e1
                · rename_i hp
                  split at hp
                  · rename_i hc
                    simp only [Option.some.injEq] at hp e1
                    subst hp e1
                    obtain ⟨k1, k2⟩ := hk.str
                    refine .inr (.inr ⟨_, k1, by rw [mkS_len, line_eq]; exact hc, ?_⟩)
                    rw [cutS_ok]
                    exact p3.tree h3 (by simp only [RP, true_and]; exact okS_cut k2 lo hi)
                  · cases hp
                · cases e1
            · cases e1
      · cases e1
theorem rd_slcL {ta : TE} {tl th : TO} {fa fl fh : Slots → Store → Option ER} {l h : Bool} (ha : RdE M X.K W ta fa) (hl : RdO M X.K W tl l fl) (hu : RdO M X.K W th h fh) :
    RdE M X.K W (tSl (rSlW X.K) ta tl th) fun φ st => R.bind (fa φ st) fun x st => R.bind (fl φ st) fun lv st => match optL l lv with
      | some lo => R.bind (fh φ st) fun hv st => match optL h hv, peek st x with
        | some hi, some (.lst ps) => some (.ok (.ref st.length) (st ++ [.lst true ((cut ps lo hi).map .pv)]))
        | _, _ => none
      | none => none := by
  intro σ H Q φ F ρ st r hh hs e p
  refine ha.bind hh hs e p fun x st1 F1 ρ1 H1 v e1 g1 h1 r1 p1 => ?_
  have hs1 := hs.g g1
  cases ql : fl φ st1 with
  | none => rw [ql] at e1; cases e1
  | some rl =>
    rw [ql] at e1
    cases rl with
    | ex y st2 =>
      have e' : r = .ex y st2 := (Option.some.inj e1).symm
      subst e'
      exact hl σ H1 _ φ F1 ρ1 st1 _ h1 hs1 ql p1
    | ok y st2 =>
      simp only [R.bind] at e1
      split at e1
      · rename_i lo elo
        refine hl σ H1 _ φ F1 ρ1 st1 _ h1 hs1 ql ⟨lo, elo, fun F2 ρ2 H2 g2 h2 => ?_⟩
        have hs2 := hs1.g g2
        have p2 := p1.g g2
        cases qh : fh φ st2 with
        | none => rw [qh] at e1; cases e1
        | some rh =>
          rw [qh] at e1
          cases rh with
          | ex z st3 =>
            have e' : r = .ex z st3 := (Option.some.inj e1).symm
            subst e'
            exact hu σ H2 _ φ F2 ρ2 st2 _ h2 hs2 qh p2
          | ok z st3 =>
            simp only at e1
            split at e1
            · rename_i hi ps ehi epx
              refine hu σ H2 _ φ F2 ρ2 st2 _ h2 hs2 qh ⟨hi, ehi, fun F3 ρ3 H3 g3 h3 => ?_⟩
              have p3 := p2.g g3
              have r3 := RL.mono (g2.trans g3).sub (g2.trans g3).pre _ _ r1
              have hk := peek_ok h3 r3 epx
              simp only [Option.some.injEq] at e1
              subst e1
              obtain ⟨a, vs, ea, eb, ec⟩ := hk
              refine .inl ⟨a, vs, ea, .inl (.inl eb), fun b nb => ?_⟩
              obtain ⟨g4, h4⟩ := h3.cellN nb (o := .lst (cutV vs lo hi)) (c := .lst true ((cut ps lo hi).map .pv)) ⟨cutV vs lo hi, upd_same, RLs_pv.mpr (cutV_ok ec lo hi), fun _ => h3.fresh nb, fun z => Bool.noConfusion z⟩
              refine p3 _ _ _ _ g4 (by simpa using h4) ?_
              simp only [RL]
              exact ⟨b, rfl, by rw [← h3.len, List.getElem?_append_right (Nat.le_refl _)]; simp⟩
            · cases e1
      · cases e1
end
end Z
end

section
/-! ZO: the theorem for expressions. -/
namespace Z
open PySem PySem.Spec PyProof.Rows L2
section
variable {X : Cx} {g : SC} {M : Nm} {S : Sem} {W : WX} {k : Nat}
theorem rd_not {t : TE} {f : Slots → Store → Option ER} (h : RdE M X.K W t f) : RdE M X.K W (tNotT X.K t) fun φ st => R.bind (f φ st) fun x st => match truL x st with
    | some b => some (.ok (.pv (.bl (!b))) st)
    | none => none := by
  intro σ H Q φ F ρ st r hh hs e p
  refine h.bind hh hs e p fun x st1 F1 ρ1 H1 v e1 g1 h1 r1 p1 => ?_
  split at e1
  · rename_i b hb
    simp only [Option.some.injEq] at e1
    subst e1
    exact ⟨b, rd_truL h1 r1 hb, p1.tree h1 (by simp only [RP])⟩
  · cases e1
theorem rd_boolop2 {c : Bool} {ta tb : TE} {fa fb : Slots → Store → Option ER} (ha : RdE M X.K W ta fa) (hb : RdE M X.K W tb fb) :
    RdE M X.K W (if c then tAndT X.K ta tb else tOrT X.K ta tb) fun φ st => R.bind (fa φ st) fun v st => match truL v st with
      | some b => if b == c then fb φ st else some (.ok v st)
      | none => none := by
  intro σ H Q φ F ρ st r hh hs e p
  cases c with
  | true =>
    show tAndT X.K ta tb σ H Q
    refine ha.bind hh hs e p fun x st1 F1 ρ1 H1 v e1 g1 h1 r1 p1 => ?_
    split at e1
    · rename_i b hb'
      refine ⟨b, rd_truL h1 r1 hb', ?_⟩
      cases b with
      | true =>
        rw [if_pos rfl]
        simp only [beq_self_eq_true, if_true] at e1
        exact hb σ H1 Q φ F1 ρ1 st1 r h1 (hs.g g1) e1 p1
      | false =>
        rw [if_neg Bool.false_ne_true]
        simp only [show (false == true) = false by rfl, Bool.false_eq_true, if_false, Option.some.injEq] at e1
        subst e1
        exact p1.here h1 r1
    · cases e1
  | false =>
    show tOrT X.K ta tb σ H Q
    refine ha.bind hh hs e p fun x st1 F1 ρ1 H1 v e1 g1 h1 r1 p1 => ?_
    split at e1
    · rename_i b hb'
      refine ⟨b, rd_truL h1 r1 hb', ?_⟩
      cases b with
      | true =>
        rw [if_pos rfl]
        simp only [show (true == false) = false by rfl, Bool.false_eq_true, if_false, Option.some.injEq] at e1
        subst e1
        exact p1.here h1 r1
      | false =>
        rw [if_neg Bool.false_ne_true]
        simp only [beq_self_eq_true, if_true] at e1
        exact hb σ H1 Q φ F1 ρ1 st1 r h1 (hs.g g1) e1 p1
    · cases e1
theorem rd_boolopT2 {c : Bool} {ta tb : TT} {fa fb : Slots → Store → Option ET} (ha : RdT M X.K W ta fa) (hb : RdT M X.K W tb fb) :
    RdT M X.K W (if c then tAnd ta tb else tOr ta tb) fun φ st => T.bt (fa φ st) fun b st => if b == c then fb φ st else some (.ok b st) := by
  intro σ H Q φ F ρ st r hh hs e p
  cases c with
  | true =>
    show tAnd ta tb σ H Q
    refine ha.bindT hh hs e p fun b st1 F1 ρ1 H1 e1 g1 h1 p1 => ?_
    cases b with
    | true =>
      rw [if_pos rfl]
      simp only [beq_self_eq_true, if_true] at e1
      exact hb σ H1 Q φ F1 ρ1 st1 r h1 (hs.g g1) e1 p1
    | false =>
      rw [if_neg Bool.false_ne_true]
      simp only [show (false == true) = false by rfl, Bool.false_eq_true, if_false, Option.some.injEq] at e1
      subst e1
      exact p1 F1 ρ1 H1 (G.refl _ _ _) h1
  | false =>
    show tOr ta tb σ H Q
    refine ha.bindT hh hs e p fun b st1 F1 ρ1 H1 e1 g1 h1 p1 => ?_
    cases b with
    | true =>
      rw [if_pos rfl]
      simp only [show (true == false) = false by rfl, Bool.false_eq_true, if_false, Option.some.injEq] at e1
      subst e1
      exact p1 F1 ρ1 H1 (G.refl _ _ _) h1
    | false =>
      rw [if_neg Bool.false_ne_true]
      simp only [beq_self_eq_true, if_true] at e1
      exact hb σ H1 Q φ F1 ρ1 st1 r h1 (hs.g g1) e1 p1
/-! ### isinstance -/
def tyS : Ty → String
  | .int => "int" | .bool => "bool" | .str => "str" | .list => "list" | .tuple => "tuple"
theorem kit_non : ∀ t : Ty, kitB "NoneType" (tyS t) = some false
  | .int => by decide +kernel
  | .bool => by decide +kernel
  | .str => by decide +kernel
  | .list => by decide +kernel
  | .tuple => by decide +kernel
theorem kit_bool : ∀ t : Ty, kitB "bool" (tyS t) = some (t == .bool || t == .int)
  | .int => by decide +kernel
  | .bool => by decide +kernel
  | .str => by decide +kernel
  | .list => by decide +kernel
  | .tuple => by decide +kernel
theorem kit_int : ∀ t : Ty, kitB "int" (tyS t) = some (t == .int)
  | .int => by decide +kernel
  | .bool => by decide +kernel
  | .str => by decide +kernel
  | .list => by decide +kernel
  | .tuple => by decide +kernel
theorem kit_str : ∀ t : Ty, kitB "str" (tyS t) = some (t == .str)
  | .int => by decide +kernel
  | .bool => by decide +kernel
  | .str => by decide +kernel
  | .list => by decide +kernel
  | .tuple => by decide +kernel
theorem kit_list : ∀ t : Ty, kitB "list" (tyS t) = some (t == .list)
  | .int => by decide +kernel
  | .bool => by decide +kernel
  | .str => by decide +kernel
  | .list => by decide +kernel
  | .tuple => by decide +kernel
theorem kit_tuple : ∀ t : Ty, kitB "tuple" (tyS t) = some (t == .tuple)
  | .int => by decide +kernel
  | .bool => by decide +kernel
  | .str => by decide +kernel
  | .list => by decide +kernel
  | .tuple => by decide +kernel
theorem ty_ok {K : PySem.W.Frag} {F H : Hp} (s : Sub F H) {t : Ty} {p : PV} {v : V} {b : Bool} (h : PK K F H p v) (e : isTy t p = some b) : ∃ c : String, TyX K H v (.type c) ∧ kitB c (tyS t) = some b := by
  cases p <;> simp only [isTy, Option.some.injEq, reduceCtorEq] at e
  case non => subst e; simp only [PK, RP] at h; subst h; exact ⟨"NoneType", .base .non, kit_non t⟩
  case bl c => subst e; simp only [PK, RP] at h; subst h; exact ⟨"bool", .base (.bl _), kit_bool t⟩
  case int i => subst e; rw [h.int]; exact ⟨"int", .base (.int _), kit_int t⟩
  case str x => subst e; rw [h.str.1]; exact ⟨"str", .base (.str _), kit_str t⟩
  case lst xs =>
    subst e
    obtain ⟨a, vs, e1, e2, e3⟩ := h
    subst e1
    exact ⟨"list", .base (.lst e2), kit_list t⟩
  case tup xs =>
    subst e
    simp only [PK, RP] at h
    obtain ⟨a, vs, e1, e2, e3⟩ := h
    subst e1
    exact ⟨"tuple", .base (.tup (s _ _ e2)), kit_tuple t⟩
theorem ty_boot : ∀ t : Ty, bootBuiltins (tyName t) = some (.type (tyS t))
  | .int => by decide +kernel
  | .bool => by decide +kernel
  | .str => by decide +kernel
  | .list => by decide +kernel
  | .tuple => by decide +kernel
theorem rd_isi {t : TE} {f : Slots → Store → Option ER} {ty : Ty} (h : RdE M X.K W t f) : RdE M X.K W (tCB (rIsi X.K) (tCons t (tCons (tC (.ty (tyS ty))) tNil))) fun φ st => R.bind (f φ st) fun x st => match peek st x with
    | some x => (isTy ty x).map fun b => .ok (.pv (.bl b)) st
    | none => none := by
  intro σ H Q φ F ρ st r hh hs e p
  refine h.bind hh hs e p fun x st1 F1 ρ1 H1 v e1 g1 h1 r1 p1 => ?_
  split at e1
  · rename_i q hq
    simp only [Option.map_eq_some_iff] at e1
    obtain ⟨b, e2, e3⟩ := e1
    subst e3
    obtain ⟨c, h2, h3⟩ := ty_ok h1.sub (peek_ok h1 r1 hq) e2
    exact ⟨v, .ty (tyS ty), .type c, .type (tyS ty), b, rfl, .ty _, h2, kit_ty h3, p1.tree h1 (by simp only [RP])⟩
  · cases e1
theorem base_plain {o : Expr} {m : Str} {env : Env} (h : (match o with
      | .Call _ [] _ _ => false
      | _ => true) = true) : attributeBase o m env (eval o env) = eval o env := by
  unfold attributeBase
  cases o <;> try rfl
  rename_i f args kws pos
  cases args with
  | nil => cases h
  | cons a as => cases f <;> rfl
theorem base_plainO {o : Expr} {m : Str} {env : Env} (h : plainO o = true) : attributeBase o m env (eval o env) = eval o env := by
  unfold attributeBase
  cases o <;> try rfl
  rename_i f args kws pos
  cases args with
  | cons a as => cases f <;> rfl
  | nil =>
    cases f <;> try rfl
    rename_i x p
    cases kws with
    | cons _ _ => rfl
    | nil =>
      have hx : (x != ("super" : Str)) = true := h
      simp only [hx, Bool.true_or, if_true, bind_pure]
end
end Z
end

section
/-! ZNa: what an except suite asks of the error that it names. -/
namespace Z
open PySem PySem.Spec PyProof.Rows L2
section
variable {X : Cx} {g : SC} {M : Nm} {S : Sem} {W : WX} {k : Nat}
theorem look_names {K : PySem.W.Frag} {F : Hp} (inj : ∀ f f', M.fnm f = M.fnm f' → f = f') {f : Nat} {p : PV} : ∀ {fs : List (Nat × PV)} {vs : List V}, RPs K F (fs.map (·.2)) vs → look f fs = some p → ∃ v, ((fs.map fun f => M.fnm f.1).zip vs).lookup (M.fnm f) = some v ∧ RP K F p v
  | [], vs, _, e => by simp [look] at e
  | (f', q) :: fs, vs, r, e => by
    simp only [List.map_cons, RPs] at r
    obtain ⟨v, vs', e1, e2, e3⟩ := r
    subst e1
    simp only [List.map_cons, List.zip_cons_cons]
    unfold look at e
    by_cases hf : f' = f
    · rw [if_pos hf] at e
      cases e
      subst hf
      exact ⟨v, by simp [List.lookup], e2⟩
    · rw [if_neg hf] at e
      obtain ⟨w, h1, h2⟩ := look_names inj e3 e
      refine ⟨w, ?_, h2⟩
      have hn : (M.fnm f == M.fnm f') = false := by
        simp only [beq_eq_false_iff_ne]
        exact fun z => hf (inj _ _ z).symm
      simp only [List.lookup, hn]
      exact h1
/-- the error in its slot -/
theorem cur_at (C : Cok X g M S W k) {i : Nat} (hx : g.exn = some i) : ∃ (X0 : Cx) (a : Addr) (oe : Obj) (cls : Value) (d : Option Addr) (pn : List (Addr × Obj)), X = X0.suite a ((a, oe) :: pn) ∧ M.cur = some (i, a, cls, d) ∧ Zc cls d oe ∧ ∃ vs, oe.data = .fields vs := by
  have h := C.cur
  rw [hx] at h
  exact h
theorem in_slot {F : Hp} {ρ : List Addr} {σ : L2.St} {φ : Slots} {K : PySem.W.Frag} {i : Nat} {a : Addr} {cls : Value} {d : Option Addr} {e : Ex} (hm : M.cur = some (i, a, cls, d)) (hs : SL M K F ρ σ φ) (h : φ[i]? = some (some (.exn e))) : σ[i]? = some (some (.ref a)) ∧ RF M K F e cls d := by
  obtain ⟨v, h1, a', cls', d', h2, h3, h4⟩ := hs.2 i _ h
  rw [hm] at h2
  cases h2
  rw [h3] at h1
  exact ⟨h1, h4⟩
theorem se_xfld (C : Cok X g M S W k) {i f : Nat} {x n : Str} {p pos : Pos} (hx : g.exn = some i) (hN : g.N[i]? = some x) (hv : vis? g x = true) (hf : g.T.fnames[f]? = some n) : SE X M S W (.xfld i f) (.Attribute (.Name x p) n pos) := by
  obtain ⟨X0, a, oe, cls, d, pn, hX, hm, hz, hd⟩ := cur_at C hx
  obtain ⟨v1, v2, v3⟩ := C.vis hv
  have hn := C.fname f n hf
  by_cases hc : ∃ (c : Nat) (ei : EI), g.T.errs[c]? = some ei ∧ cls = .ref (M.ead c) ∧ ∃ q ∈ ei.fl, q.1 = f
  · obtain ⟨c, ei, h1, h2, q, hq1, hq2⟩ := hc
    have E := C.errs c ei h1
    have hno := E.no q hq1
    rw [hq2, hn] at hno
    have pv : PE X (.Name x p) (tVar i) := pe_var (by rw [C.N]; exact hN) v1 v2 v3
    have xf := E.xf
    refine ⟨tXf a cls d (M.ead c) n (tVar i), ?_, ?_⟩
    · subst hX
      exact pe_xf (X := X0) xf hno hz hd pv rfl
    · intro σ H Q φ F ρ st r hh hs e post
      simp only [evE] at e
      split at e
      · rename_i ex hex
        split at e
        · rename_i nf hnf
          split at e
          · cases ql : look f ex.fs with
            | none => simp [ql, okP] at e
            | some pv =>
              simp only [ql, okP, Option.some.injEq] at e
              subst e
              obtain ⟨s1, r1, r2⟩ := in_slot hm hs hex
              rcases r2 with ⟨z, _⟩ | ⟨dd, vs, e1, e2, e3⟩
              · rw [z] at ql; simp [look] at ql
              · obtain ⟨v, l1, l2⟩ := look_names C.finj e3 ql
                rw [hn] at l1
                exact ⟨_, s1, rfl, h2, dd, _, v, e1, hh.sub _ _ e2, l1, post.tree hh l2⟩
          · cases e
        · cases e
      · cases e
  · refine ⟨fun _ _ _ => False, ⟨fun _ _ _ _ _ _ z => z.elim⟩, ?_⟩
    intro σ H Q φ F ρ st r hh hs e post
    simp only [evE] at e
    split at e
    · rename_i ex hex
      split at e
      · rename_i nf hnf
        split at e
        · rename_i ha
          obtain ⟨s1, r1, r2⟩ := in_slot hm hs hex
          obtain ⟨ei, h1⟩ := C.xerr ex.cls (by rw [hnf]; simp)
          have E := C.errs _ _ h1
          have hxin := E.xin
          rw [hnf] at hxin
          cases hxin
          obtain ⟨q, hq1, hq2⟩ := List.any_eq_true.mp ha
          exact hc ⟨ex.cls, ei, h1, r1, q, hq1, by simpa using hq2⟩
        · cases e
      · cases e
    · cases e
theorem se_xisi (C : Cok X g M S W k) {i c' : Nat} {x cn : Str} {ei' : EI} {p p1 p2 pos : Pos} (hx : g.exn = some i) (hN : g.N[i]? = some x) (hv : vis? g x = true) (hg : gl? g ("isinstance" : Str) = true) (hc' : gl? g cn = true) (he' : g.T.errs[c']? = some ei') (hn' : ei'.name = cn) :
    SE X M S W (.xisi i c') (.Call (.Name "isinstance" p) [.Name x p1, .Name cn p2] [] pos) := by
  obtain ⟨X0, a, oe, cls, d, pn, hX, hm, hz, hd⟩ := cur_at C hx
  obtain ⟨v1, v2, v3⟩ := C.vis hv
  obtain ⟨g1, g2⟩ := C.gl hg
  obtain ⟨g3, g4⟩ := C.gl hc'
  have E' := C.errs c' ei' he'
  by_cases hc : ∃ (c : Nat) (ei : EI), g.T.errs[c]? = some ei ∧ cls = .ref (M.ead c)
  · obtain ⟨c, ei, h1, h2⟩ := hc
    have E := C.errs c ei h1
    have pv : PE X (.Name x p1) (tVar i) := pe_var (by rw [C.N]; exact hN) v1 v2 v3
    have pc : PE X (.Name cn p2) (tC (.ref (M.ead c'))) := pe_glob g3 (by rw [← hn']; exact E'.adr) rfl g4
    have ec := E.ec
    have bis := C.bis
    refine ⟨tCB (rIsX X.K (M.ead c) a d) (tCons (tVar i) (tCons (tC (.ref (M.ead c'))) tNil)), ?_, ?_⟩
    · subst hX
      rw [h2] at hz
      exact pe_callB (call_isX ec hz hd) g1 bis (by decide +kernel) (pa_cons pv (pa_cons pc pa_nil)) (by decide) (by decide)
    · intro σ H Q φ F ρ st r hh hs e post
      simp only [evE] at e
      split at e
      · rename_i ex hex
        split at e
        · rename_i nf hnf
          simp only [Option.some.injEq] at e
          subst e
          obtain ⟨s1, r1, r2⟩ := in_slot hm hs hex
          obtain ⟨ei2, h3⟩ := C.xerr ex.cls (by rw [hnf]; simp)
          have E2 := C.errs _ _ h3
          have hk := (E2.sub c' ei' he').2
          have ea : M.ead ex.cls = M.ead c := by rw [r1] at h2; exact Value.ref.inj h2
          rw [ea] at hk
          refine ⟨_, s1, _, _, _, rfl, fun u hu => hu, ?_, hk, post.tree hh (by simp only [RP])⟩
          rcases r2 with ⟨_, z⟩ | ⟨dd, vs, e1, e2, _⟩
          · exact .inl z
          · exact .inr ⟨dd, _, e1, hh.sub _ _ e2⟩
        · cases e
      · cases e
  · refine ⟨fun _ _ _ => False, ⟨fun _ _ _ _ _ _ z => z.elim⟩, ?_⟩
    intro σ H Q φ F ρ st r hh hs e post
    simp only [evE] at e
    split at e
    · rename_i ex hex
      split at e
      · rename_i nf hnf
        obtain ⟨s1, r1, r2⟩ := in_slot hm hs hex
        obtain ⟨ei, h1⟩ := C.xerr ex.cls (by rw [hnf]; simp)
        exact hc ⟨ex.cls, ei, h1, r1⟩
      · cases e
    · cases e
end
end Z
end

section
/-! ZNb: instances. -/
namespace Z
open PySem PySem.Spec PyProof.Rows L2
section
theorem few_ok {es : List Expr} {env : Env} {cpos : Pos} (h : (es.all fun e => !isStar e) = true) (hl : es.length < 20) : ((backTo cpos (starEach es env)).all (fun x => !x.1) && (backToKw cpos (keywordEach [] env)).all (fun x => x.1.isSome)
      && decide (es.length + ([] : List Keyword).length + (if ([] : List Keyword).isEmpty then 0 else 1) < 30)) = true := by
  have h1 : (backTo cpos (starEach es env)).all (fun x => !x.1) = true := by
    have := star_plain (env := env) (pos := cpos) h
    rw [List.any_eq_false] at this
    rw [List.all_eq_true]
    intro x hx
    have h2 := this x hx
    simpa using h2
  rw [h1]
  simp only [Bool.true_and, Bool.and_eq_true, decide_eq_true_eq]
  exact ⟨rfl, by simp; omega⟩
end
section
variable {K : PySem.W.Frag} {F : Hp} {ρ : List Addr} {fnm : Nat → Str}
theorem look_zip (hi : ∀ f f', fnm f = fnm f' → f = f') {f : Nat} {x : LV} : ∀ {fs : List (Nat × LV)} {vs : List V}, RLs K F ρ (fs.map (·.2)) vs → look f fs = some x → ∃ v, ((fs.map fun q => fnm q.1).zip vs).lookup (fnm f) = some v ∧ RL K F ρ x v
  | [], _, _, e => by simp [look] at e
  | (g, y) :: fs, vs, r, e => by
    simp only [List.map_cons, RLs] at r
    obtain ⟨v, r', e1, e2, e3⟩ := r
    subst e1
    unfold look at e
    split at e
    · rename_i hg
      subst hg
      cases e
      exact ⟨v, by simp [List.lookup], e2⟩
    · rename_i hg
      obtain ⟨w, h1, h2⟩ := look_zip hi e3 e
      refine ⟨w, ?_, h2⟩
      have hb : (fnm f == fnm g) = false := by
        simp only [beq_eq_false_iff_ne]
        exact fun z => hg (hi _ _ z).symm
      simp only [List.map_cons, List.zip_cons_cons, List.lookup, hb]
      exact h1
theorem put_zip (hi : ∀ f f', fnm f = fnm f' → f = f') {f : Nat} {x : LV} {v : V} (rx : RL K F ρ x v) : ∀ {fs : List (Nat × LV)} {vs : List V}, RLs K F ρ (fs.map (·.2)) vs → ∃ vs', putF (fnm f) v ((fs.map fun q => fnm q.1).zip vs) = ((putFl f x fs).map fun q => fnm q.1).zip vs' ∧ RLs K F ρ ((putFl f x fs).map (·.2)) vs'
  | [], vs, r => by
    simp only [List.map_nil, RLs] at r
    subst r
    exact ⟨[v], rfl, by simp only [putFl, List.map_cons, List.map_nil, RLs]; exact ⟨v, [], rfl, rx, rfl⟩⟩
  | (g, y) :: fs, vs, r => by
    simp only [List.map_cons, RLs] at r
    obtain ⟨w, r', e1, e2, e3⟩ := r
    subst e1
    by_cases hg : g = f
    · subst hg
      refine ⟨v :: r', ?_, ?_⟩
      · simp only [List.map_cons, List.zip_cons_cons, putF, putFl, if_true]
      · simp only [putFl, if_true, List.map_cons, RLs]
        exact ⟨v, r', rfl, rx, e3⟩
    · obtain ⟨vs', h1, h2⟩ := put_zip hi rx e3
      refine ⟨w :: vs', ?_, ?_⟩
      · simp only [List.map_cons, List.zip_cons_cons, putF, putFl, if_neg hg]
        rw [if_neg (fun z => hg (hi _ _ z)), h1]
      · simp only [putFl, if_neg hg, List.map_cons, RLs]
        exact ⟨w, vs', rfl, e2, h2⟩
theorem zip_none {m : Str} : ∀ {fs : List (Nat × LV)} {vs : List V}, (∀ q ∈ fs, fnm q.1 ≠ m) → ((fs.map fun q => fnm q.1).zip vs).lookup m = none
  | [], _, _ => rfl
  | (g, y) :: fs, [], _ => rfl
  | (g, y) :: fs, v :: vs, h => by
    have hb : (m == fnm g) = false := by
      simp only [beq_eq_false_iff_ne]
      exact fun z => h (g, y) List.mem_cons_self z.symm
    simp only [List.map_cons, List.zip_cons_cons, List.lookup, hb]
    exact zip_none fun q hq => h q (List.mem_cons_of_mem _ hq)
end
section
variable {X : Cx} {g : SC} {M : Nm} {S : Sem} {W : WX} {k : Nat}
theorem ins_at {F H : Hp} {ρ : List Addr} {st : Store} {c nf : Nat} {x : LV} {v : V} (hh : HR' M X.K F ρ H st) (r : RL X.K F ρ x v) (h : isIns c nf x st = true) :
    ∃ n a fs dx vs, x = .ref n ∧ v = .ref a ∧ ρ[n]? = some a ∧ st[n]? = some (.ins c fs) ∧ (∀ q ∈ fs, q.1 < nf) ∧ H a = some (.ins (M.cad c) dx ((fs.map fun q => M.fnm q.1).zip vs)) ∧ RLs X.K F ρ (fs.map (·.2)) vs ∧ F a = none := by
  cases x <;> simp only [isIns, Bool.false_eq_true] at h
  rename_i n
  simp only [RL] at r
  obtain ⟨a, e1, e2⟩ := r
  obtain ⟨cc, e3, hc⟩ := hh.at e2
  rw [e3] at h
  cases cc <;> simp only [Bool.false_eq_true] at h
  rename_i D fs
  simp only [Bool.and_eq_true, beq_iff_eq, List.all_eq_true, decide_eq_true_eq] at h
  obtain ⟨h1, h2⟩ := h
  subst h1
  obtain ⟨dx, vs, h3, h4, h5⟩ := hc
  exact ⟨n, a, fs, dx, vs, rfl, e1, e2, e3, h2, h3, h4, h5⟩
theorem Cok.nfn (C : Cok X g M S W k) {q : Nat} (h : q < S.nf) {m : Str} (hm : g.T.fnames.contains m = false) : M.fnm q ≠ m := by
  have hl : q < g.T.fnames.length := Nat.lt_of_lt_of_le h C.nf
  have := C.fname q _ (List.getElem?_eq_getElem hl)
  rw [this]
  intro z
  have h2 : g.T.fnames.contains m = true := List.contains_iff_mem.mpr (by rw [← z]; exact List.getElem_mem hl)
  rw [hm] at h2; cases h2
theorem se_fld (C : Cok X g M S W k) {c f : Nat} {a : ME} {x : Expr} {n : Str} {pos : Pos} (h1 : (match x with
      | .Call _ [] _ _ => false
      | _ => true) = true) (h2 : g.T.fnames[f]? = some n) (h3 : (match g.T.cls[c]? with
      | some ci => ci.fields.contains f
      | none => false) = true) (ha : SE X M S W a x) : SE X M S W (.fld c a f) (.Attribute x n pos) := by
  obtain ⟨ta, a1, a2⟩ := ha
  refine ⟨_, pe_fld a1 (base_plain h1), ?_⟩
  split at h3
  · rename_i ci hci
    have CC := C.cls c ci hci
    have hn : M.fnm f = n := C.fname f n h2
    intro σ H Q φ F ρ st r hh hs e p
    simp only [evE] at e
    refine a2.bind hh hs e p fun y st1 F1 ρ1 H1 v e1 g1 h1 r1 p1 => ?_
    split at e1
    · rename_i hi
      obtain ⟨m, b, fs, dx, vs, ex, ev, er, es, hf, hH, hr, _⟩ := ins_at h1 r1 hi
      subst ex ev
      simp only [getF, es] at e1
      split at e1
      · rename_i z hz
        simp only [Option.some.injEq] at e1
        subst e1
        obtain ⟨u, l1, l2⟩ := look_zip C.finj hr hz
        rw [hn] at l1
        exact ⟨b, _, dx, _, u, rfl, hH, CC.cl, by rw [← hn]; exact CC.no f (by simpa using h3), l1, p1.here h1 l2⟩
      · cases e1
    · cases e1
  · cases h3
theorem se_mcall (C : Cok X g M S W k) {c f : Nat} {a : ME} {es : List ME} {o : Expr} {xs : List Expr} {n : Str} {apos cpos : Pos} (hot : g.hot = false) (hline : (apos.endLine == cpos.line) = true) (h1 : plainO o = true) (hl : es.length < 20) (h3 : (match g.T.cls[c]? with
      | some ci => ci.meths.contains (n, f, es.length + 1) && !g.T.fnames.contains n
      | none => false) = true) (ha : SE X M S W a o) (hs : SEs X M S W es xs) : SE X M S W (.mcall c f a es) (.Call (.Attribute o n apos) xs [] cpos) := by
  obtain ⟨ta, a1, a2⟩ := ha
  have st := hs.star
  have len := hs.len
  have few := few_ok (env := X.env) (cpos := cpos) st (by rw [← len]; exact hl)
  have ht := mtree (apos := apos) (base_plainO (m := n) (env := X.env) h1) few hline
  split at h3
  · rename_i ci hci
    simp only [Bool.and_eq_true, Bool.not_eq_true'] at h3
    obtain ⟨h3, hfn⟩ := h3
    have CC := C.cls c ci hci
    obtain ⟨b, fd, ps, Mt, F, hb⟩ := CC.meth n f _ (by simpa using h3)
    have main : ∀ {t : TA}, RdA M X.K W t (evEs S es) → RdE M X.K W (tMethG (M.cad c) n (spOf M X.K (S.cal f) (es.length + 1)) (fun σ cls d H => W cls d σ H) ta t) (evE S (.mcall c f a es)) := by
      intro t hA σ H Q φ F ρ st r hh hs e p
      simp only [evE] at e
      refine a2.bind hh hs e p fun y st1 F1 ρ1 H1 v e1 g1 h1 r1 p1 => ?_
      split at e1
      · rename_i hi
        obtain ⟨m, b, fs, dx, vs, ex, ev, er, es', hf, hH, hr, _⟩ := ins_at h1 r1 hi
        subst ev
        refine ⟨b, dx, _, rfl, hH, zip_none fun q hq => C.nfn (hf q hq) hfn, ?_⟩
        cases q : evEs S es φ st1 with
        | none => rw [q] at e1; cases e1
        | some rs =>
          rw [q] at e1
          cases rs with
          | ex z st2 =>
            have e' : r = .ex z st2 := (Option.some.inj e1).symm
            subst e'
            exact hA σ H1 _ φ F1 ρ1 st1 _ h1 (hs.g g1) q p1
          | ok zs st2 =>
            refine hA σ H1 _ φ F1 ρ1 st1 _ h1 (hs.g g1) q fun F2 ρ2 H2 us g2 h2 r2 => ?_
            exact rd_call (args := y :: zs) h2 (by simp only [RLs]; exact ⟨_, us, rfl, RL.mono g2.sub g2.pre _ _ r1, r2⟩) (by rw [List.length_cons, ← r2.length, evEs_len q]) e1 (p1.g g2)
      · cases e1
    cases xs with
    | nil =>
      have hes : es = [] := List.length_eq_zero_iff.mp len
      refine ⟨_, pe_methG0 a1 CC.cl Mt F (C.hr hot) (C.gd hot) hb (fun σ => L2N.passAt C.takes σ) ht, ?_⟩
      have hA : RdA M X.K W tNil (evEs S es) := by
        subst hes
        intro σ H Q φ F ρ st r hh hs e p
        simp only [evEs, Option.some.injEq] at e
        subst e
        exact p F ρ H [] (G.refl F ρ H) hh (by simp only [RLs])
      exact main hA
    | cons y ys =>
      obtain ⟨t, b1, b2⟩ := hs.pa
      simp only [List.all_cons, Bool.and_eq_true, Bool.not_eq_true'] at st
      exact ⟨_, pe_methG a1 CC.cl Mt F (C.hr hot) (C.gd hot) hb (fun σ => L2N.passAt C.takes σ) b1 (star_each st.1) (star_plain st.2) ht, main b2⟩
  · cases h3
theorem se_new (C : Cok X g M S W k) {c f : Nat} {es : List ME} {x : Str} {xs : List Expr} {p pos : Pos} (hot : g.hot = false) (hg : gl? g x = true) (h3 : (match g.T.cls[c]? with
      | some ci => decide (ci.name = x) && ci.meths.contains ("__init__", f, es.length + 1)
      | none => false) = true) (hs : SEs X M S W es xs) : SE X M S W (.new c f es) (.Call (.Name x p) xs [] pos) := by
  have st := hs.star
  have len := hs.len
  obtain ⟨g1, g2⟩ := C.gl hg
  split at h3
  · rename_i ci hci
    simp only [Bool.and_eq_true, decide_eq_true_eq] at h3
    obtain ⟨hn, h3⟩ := h3
    have CC := C.cls c ci hci
    obtain ⟨b, fd, ps, j, hj, Mt, F, hb⟩ := CC.make f _ (by simpa using h3)
    have hm := CC.adr
    rw [hn] at hm
    have room : RoomZ (j + 1) X.A := (C.hr hot).mono hj
    have main : ∀ {t : TA}, RdA M X.K W t (evEs S es) → RdE M X.K W (tMakeG (M.cad c) (spOf M X.K (S.cal1 f) (es.length + 1)) (fun σ cls d H => W cls d σ H) t) (evE S (.new c f es)) := by
      intro t hA σ H Q φ F ρ st r hh hs e p
      simp only [evE] at e
      cases q : evEs S es φ st with
      | none => rw [q] at e; cases e
      | some rs =>
        rw [q] at e
        cases rs with
        | ex z st2 =>
          have e' : r = .ex z st2 := (Option.some.inj e).symm
          subst e'
          exact hA σ H _ φ F ρ st _ hh hs q p
        | ok zs st1 =>
          refine hA σ H _ φ F ρ st _ hh hs q fun F1 ρ1 H1 us g1 h1 r1 x dx nx nd ne => ?_
          have p1 := p.g g1
          have e' : S.make c f zs st1 = some r := e
          unfold Sem.make at e'
          refine ⟨by rw [List.length_cons, ← r1.length, evEs_len q], ?_⟩
          obtain ⟨ga, ha⟩ := h1.laid nd (.own x)
          have nx2 : (upd H1 dx (.own x)) x = none := by rw [upd_ne (Ne.symm ne)]; exact nx
          obtain ⟨gb, hb2⟩ := ha.cellN nx2 (o := .ins (M.cad c) dx []) (c := .ins c []) ⟨dx, [], upd_same, by simp only [List.map_nil, RLs], by have := h1.fresh nx; exact this⟩
          have gab := ga.trans gb
          have hlen : (ρ1 ++ [x]).length = st1.length + 1 := by rw [List.length_append, h1.len]; rfl
          have rargs : RLs X.K F1 (ρ1 ++ [x]) (.ref st1.length :: zs) (.ref x :: us) := by
            simp only [RLs, RL]
            exact ⟨_, us, rfl, ⟨x, rfl, by rw [← h1.len]; simp⟩, RLs.mono (Sub.refl F1) (Pre.snoc ρ1 x) _ _ r1⟩
          cases q0 : S.cal1 f (.ref st1.length :: zs) (st1 ++ [.ins c []]) with
          | none => rw [q0] at e'; cases e'
          | some r0 =>
            rw [q0] at e'
            refine ⟨F1, ρ1 ++ [x], _, _, r0, hb2, rargs, q0, ?_⟩
            cases r0 with
            | ex z st2 =>
              simp only [Option.some.injEq] at e'
              subst e'
              intro F' ρ' H' cls d g' h' rx
              obtain ⟨ρ2, g2, h2, _⟩ := trunc_ok (ok := true) h1.len (gab.trans g') h'
              exact p1 F' ρ2 H' cls d g2 h2 rx
            | ok z st2 =>
              cases z with
              | pv pz =>
                cases pz with
                | non =>
                  simp only [Option.some.injEq] at e'
                  subst e'
                  intro F' ρ' H' v g' h' rv
                  simp only [RL, RP] at rv
                  refine ⟨rv, ?_⟩
                  obtain ⟨ρ2, g2, h2, _⟩ := trunc_ok (ok := true) hlen g' h'
                  refine p1 F' ρ2 H' (.ref x) (gab.trans g2) h2 ?_
                  simp only [RL]
                  exact ⟨x, rfl, g2.pre _ _ (by rw [← h1.len]; simp)⟩
                | _ => cases e'
              | _ => cases e'
    cases xs with
    | nil =>
      have hes : es = [] := List.length_eq_zero_iff.mp len
      refine ⟨_, pe_makeG0 Mt F room (C.gd hot) g1 hm hb (fun σ => L2N.passAt C.takes σ) g2, ?_⟩
      have hA : RdA M X.K W tNil (evEs S es) := by
        subst hes
        intro σ H Q φ F ρ st r hh hs e p
        simp only [evEs, Option.some.injEq] at e
        subst e
        exact p F ρ H [] (G.refl F ρ H) hh (by simp only [RLs])
      exact main hA
    | cons y ys =>
      obtain ⟨t, b1, b2⟩ := hs.pa
      simp only [List.all_cons, Bool.and_eq_true, Bool.not_eq_true'] at st
      exact ⟨_, pe_makeG Mt F room (C.gd hot) g1 hm hb (fun σ => L2N.passAt C.takes σ) b1 g2 (star_each st.1) (star_plain st.2), main b2⟩
  · cases h3
end
end Z
end

section
/-! ZOm: methods of built-in types. -/
namespace Z
open PySem PySem.Spec PyProof.Rows L2
section
variable {X : Cx} {g : SC} {M : Nm} {S : Sem} {W : WX} {k : Nat}
def bmT : BM → String
  | .append | .pop0 | .popAt | .extend | .insert | .index => "list"
  | .get2 => "dict"
  | .join | .sindex => "str"
def rGet2 : V → List V → Hp → VK → Prop := fun x vs H Q => ∃ a y d o, x = .ref a ∧ vs = [y, d] ∧ DGet H a y o ∧ Q (o.getD d) H
theorem mt_get2 (hu : room2 X) : MtR X "dict.get" rGet2 := by
  intro pins s σ H x ys u us Q I ru rus h
  obtain ⟨a, y, d, o, ex, exs, g, q⟩ := h
  subst ex exs
  obtain rfl : u = Value.ref a := ru
  obtain ⟨u1, u2, e, r1, r2⟩ := Vals.two rus
  subst e
  exact d_get2 (by have h1 : X.A.units + 600 < cLine := hu; omega) I g r1 r2 fun w' s3 I3 rw' => ⟨_, H, I3, rw', q⟩
def rIns : V → List V → Hp → VK → Prop := fun x vs H Q => ∃ (l : Addr) (xs : List V) (i : Int) (y : V), x = .ref l ∧ vs = [.int i, y] ∧ H l = some (.lst xs) ∧ xs.length < sizeLine ∧ 0 ≤ i ∧ i < 2 ^ 63 ∧
  Q .non (upd H l (.lst (xs.take i.toNat ++ [y] ++ xs.drop i.toNat)))
def rJoin (K : PySem.W.Frag) : V → List V → Hp → VK → Prop := fun x xs H Q => ∃ a p, ∃ ys : List Str, x = .str a ∧ xs = [.ref p] ∧ (SqL K H p (ys.map V.str) ∨ SqT K H p (ys.map V.str)) ∧
  (ys.map (·.length)).sum + ys.length * a.length ≤ 16777216 ∧ Q (.str (Txt.join a ys)) H
def rBM (K : PySem.W.Frag) : BM → V → List V → Hp → VK → Prop
  | .append => rAppend
  | .get2 => rGet2
  | .pop0 => rPop
  | .extend => rExtend
  | .insert => rIns
  | .index => rIndex K
  | .join => rJoin K
  | .popAt => rPopAt
  | .sindex => fun x xs H Q => ∃ (a b : Str) (i : Nat) (rest : List Nat), x = .str a ∧ xs = [.str b] ∧ Builtin.Str.occurrences a b 0 a.length 1 = i :: rest ∧ Q (.int (i : Nat)) H
theorem mtM_R {id : String} {r : V → List V → Hp → VK → Prop} (h : MtM X id r) : MtR X id r := h
/-- the facts of a method -/
structure BmOk (X : Cx) (m : BM) (id : String) : Prop where
  pa : PlainAttrs (bmT m)
  slot : Slot (bmT m) (bmName m) id
  ty : typeOf (.builtin id) = pure (.type "method_descriptor")
  mt : MtR X id (rBM X.K m)
theorem bm_ok (hu : room2 X) : ∀ m : BM, ∃ id, BmOk X m id
  | .append => ⟨_, PySem.F.plainAttrs_list, PySem.F.slot_list_append, PySem.F.type_list_append, mtM_R mt_append⟩
  | .get2 => ⟨_, PySem.F.plainAttrs_dict, PySem.F.slot_dict_get, PySem.F.type_dict_get, mt_get2 hu⟩
  | .pop0 => ⟨_, PySem.F.plainAttrs_list, PySem.F.slot_list_pop, PySem.F.type_list_pop, mtM_R mt_pop⟩
  | .extend => ⟨_, PySem.F.plainAttrs_list, PySem.F.slot_list_extend, PySem.F.type_list_extend, mtM_R mt_extend⟩
  | .insert => ⟨_, PySem.F.plainAttrs_list, PySem.F.slot_list_insert, PySem.F.type_list_insert, mt_insert⟩
  | .index => ⟨_, PySem.F.plainAttrs_list, PySem.F.slot_list_index, PySem.F.type_list_index, mt_index⟩
  | .popAt => ⟨_, PySem.F.plainAttrs_list, PySem.F.slot_list_pop, PySem.F.type_list_pop, mtM_R mt_popAt⟩
  | .sindex => ⟨_, PySem.F.plainAttrs_str, PySem.F.slot_str_index, PySem.F.type_str_index, mt_sindex⟩
  | .join => ⟨_, PySem.F.plainAttrs_str, PySem.F.slot_str_join, PySem.F.type_str_join, mt_join⟩
/-! ### what they may be called on -/
theorem ty_bm {F H : Hp} {ρ : List Addr} {st : Store} {m : BM} {x : LV} {v : V} (hh : HR' M X.K F ρ H st) (r : RL X.K F ρ x v) (h : bmOk m x st = true) : tyV X.K (bmT m) v H := by
  have lists : ∀ a, (∃ vs, H a = some (.lst vs)) → tyV X.K "list" (.ref a) H := fun a ⟨vs, e⟩ => .inl ⟨rfl, vs, .inl (.inl e)⟩
  have dicts : ∀ a, ((∃ ks, H a = some (.dK ks)) ∨ ∃ ks, H a = some (.dT ks)) → tyV X.K "dict" (.ref a) H := fun a e => .inr (.inr (.inl ⟨rfl, e⟩))
  have cellL : ∀ n a, ρ[n]? = some a → (match st[n]? with
    | some (Cell.lst ..) => true
    | _ => false) = true → ∃ vs, H a = some (.lst vs) := fun n a ea hc => by
    obtain ⟨c, ec, hcr⟩ := hh.at ea
    rw [ec] at hc
    cases c <;> simp at hc
    obtain ⟨vs, h1, _⟩ := hcr
    exact ⟨vs, h1⟩
  cases x with
  | tup _ => cases m <;> simp [bmOk] at h
  | exn _ => cases m <;> simp [bmOk] at h
  | pv p =>
    cases m <;> cases p <;> simp only [bmOk, Bool.false_eq_true] at h
    · simp only [RL, RP] at r
      obtain ⟨a, ks, e1, e2, _⟩ := r
      subst e1
      exact dicts _ (.inl ⟨ks, hh.sub _ _ e2⟩)
    · simp only [RL, RP] at r
      obtain ⟨a, ks, e1, e2, _⟩ := r
      subst e1
      exact dicts _ (.inr ⟨ks, hh.sub _ _ e2⟩)
    · simp only [RL, RP] at r
      rw [r.1]
      exact rfl
    · simp only [RL, RP] at r
      obtain ⟨a, ks, e1, e2, _⟩ := r
      subst e1
      exact lists _ ⟨ks, hh.sub _ _ e2⟩
    · simp only [RL, RP] at r
      rw [r.1]
      exact rfl
  | ref n =>
    simp only [RL] at r
    obtain ⟨a, e1, e2⟩ := r
    subst e1
    cases m <;> simp only [bmOk, Bool.false_eq_true] at h
    case get2 =>
      obtain ⟨c, ec, hc⟩ := hh.at e2
      rw [ec] at h
      cases c <;> simp at h
      · obtain ⟨vs, h1, _⟩ := hc
        exact dicts _ (.inl ⟨vs, h1⟩)
      · obtain ⟨vs, h1, _⟩ := hc
        exact dicts _ (.inr ⟨vs, h1⟩)
    all_goals exact lists _ (cellL n a e2 h)
/-! ### what they do -/
theorem rd_get2 {F H : Hp} {ρ : List Addr} {st : Store} {σ : L2.St} {x kx d : LV} {v kv dv : V} {q pk : PV} {Q : VK} {r : ER} (hh : HR' M X.K F ρ H st) (hx : PK X.K F H q v) (hk : PK X.K F H pk kv)
    (e : (match some q, some pk, d with
      | some (.dk kvs), some k, .pv d => (match keyK k with
        | some k => some (.ok (.pv ((look k kvs).getD d)) st)
        | none => none)
      | some (.dt kvs), some k, .pv d => (match keyT k with
        | some k => some (.ok (.pv ((look k kvs).getD d)) st)
        | none => none)
      | _, _, _ => none) = some r) (p : PostE M X.K W σ F ρ H Q r) (hd : RL X.K F ρ d dv) : rGet2 v [kv, dv] H Q := by
  cases d with
  | ref _ => cases q <;> simp at e
  | tup _ => cases q <;> simp at e
  | exn _ => cases q <;> simp at e
  | pv d =>
    simp only [RL] at hd
    cases q <;> simp only [reduceCtorEq] at e
    · split at e
      · rename_i k hkk
        simp only [Option.some.injEq] at e
        subst e
        obtain ⟨a, ea, dd⟩ := dget_k hx hk hkk
        rcases dd with ⟨l, dd⟩ | ⟨z, u, l, dd, rz⟩
        · refine ⟨a, kv, dv, none, ea, rfl, dd, ?_⟩
          rw [l] at p
          exact p.tree hh hd
        · refine ⟨a, kv, dv, some u, ea, rfl, dd, ?_⟩
          rw [l] at p
          exact p.tree hh rz
      · cases e
    · split at e
      · rename_i k hkk
        simp only [Option.some.injEq] at e
        subst e
        obtain ⟨a, ea, dd⟩ := dget_t hh.sub hx hk hkk
        rcases dd with ⟨l, dd⟩ | ⟨z, u, l, dd, rz⟩
        · refine ⟨a, kv, dv, none, ea, rfl, dd, ?_⟩
          rw [l] at p
          exact p.tree hh hd
        · refine ⟨a, kv, dv, some u, ea, rfl, dd, ?_⟩
          rw [l] at p
          exact p.tree hh rz
      · cases e
theorem one_arg {F : Hp} {ρ : List Addr} {xs : List LV} {vs : List V} (rs : RLs X.K F ρ xs vs) {y : LV} (h : xs = [y]) : ∃ w, vs = [w] ∧ RL X.K F ρ y w := by
  subst h
  simp only [RLs] at rs
  obtain ⟨w, r', e1, ry, e2⟩ := rs
  subst e1 e2
  exact ⟨w, rfl, ry⟩
theorem live_at {F H : Hp} {ρ : List Addr} {st : Store} {n : Nat} {v : V} {zs : List LV} (hh : HR' M X.K F ρ H st) (rx : RL X.K F ρ (.ref n) v) (e : st[n]? = some (.lst true zs)) :
    ∃ a ws, v = .ref a ∧ ρ[n]? = some a ∧ H a = some (.lst ws) ∧ RLs X.K F ρ zs ws ∧ F a = none := by
  simp only [RL] at rx
  obtain ⟨a, ev, ea⟩ := rx
  obtain ⟨c, ec, hc⟩ := hh.at ea
  rw [ec] at e
  cases e
  obtain ⟨ws, h1, h2, h3, h4⟩ := hc
  exact ⟨a, ws, ev, ea, h1, h2, h3 rfl⟩
theorem RLs.dropLast {K : PySem.W.Frag} {F : Hp} {ρ : List Addr} : ∀ {xs : List LV} {vs : List V}, RLs K F ρ xs vs → RLs K F ρ xs.dropLast vs.dropLast
  | [], vs, h => by
    simp only [RLs] at h
    subst h
    simp [RLs]
  | [x], vs, h => by
    simp only [RLs] at h
    obtain ⟨v, r, e1, _, e3⟩ := h
    subst e1 e3
    simp [RLs]
  | x :: y :: xs, vs, h => by
    simp only [RLs] at h
    obtain ⟨v, r, e1, e2, v2, r2, e3, e4, e5⟩ := h
    subst e1 e3
    have ih := RLs.dropLast (xs := y :: xs) (vs := v2 :: r2) (by simp only [RLs]; exact ⟨v2, r2, rfl, e4, e5⟩)
    simp only [List.dropLast_cons₂, RLs]
    exact ⟨v, _, rfl, e2, ih⟩
theorem RLs.take {K : PySem.W.Frag} {F : Hp} {ρ : List Addr} : ∀ {xs : List LV} {vs : List V} (n : Nat), RLs K F ρ xs vs → RLs K F ρ (xs.take n) (vs.take n)
  | xs, _, 0, h => by simp [RLs]
  | [], vs, n + 1, h => by simp only [RLs] at h; subst h; simp [RLs]
  | x :: xs, vs, n + 1, h => by
    simp only [RLs] at h
    obtain ⟨v, r, e1, e2, e3⟩ := h
    subst e1
    simp only [List.take_succ_cons, RLs]
    exact ⟨v, _, rfl, e2, RLs.take n e3⟩
theorem RLs.drop {K : PySem.W.Frag} {F : Hp} {ρ : List Addr} : ∀ {xs : List LV} {vs : List V} (n : Nat), RLs K F ρ xs vs → RLs K F ρ (xs.drop n) (vs.drop n)
  | _, _, 0, h => h
  | [], vs, n + 1, h => by simp only [RLs] at h; subst h; simp [RLs]
  | x :: xs, vs, n + 1, h => by
    simp only [RLs] at h
    obtain ⟨v, r, e1, e2, e3⟩ := h
    subst e1
    simpa using RLs.drop n e3
theorem sq_ok {F H : Hp} {ρ : List Addr} {st : Store} {y : LV} {w : V} {ys : List LV} (hh : HR' M X.K F ρ H st) (ry : RL X.K F ρ y w) (e : sq st y = some ys) : ∃ b zs, w = .ref b ∧ H b = some (.lst zs) ∧ RLs X.K F ρ ys zs := by
  unfold sq at e
  split at e
  · rename_i n
    split at e
    · rename_i live zs hz
      simp only [Option.some.injEq] at e
      subst e
      simp only [RL] at ry
      obtain ⟨a, ev, ea⟩ := ry
      obtain ⟨c, ec, hc⟩ := hh.at ea
      rw [ec] at hz
      cases hz
      obtain ⟨ws, h1, h2, _⟩ := hc
      exact ⟨a, ws, ev, h1, h2⟩
    · cases e
  · rename_i ps
    simp only [Option.some.injEq] at e
    subst e
    simp only [RL, RP] at ry
    obtain ⟨a, ws, e1, e2, e3⟩ := ry
    exact ⟨a, ws, e1, hh.sub _ _ e2, RLs_pv.mpr e3⟩
  · cases e
theorem strs_vals {F : Hp} : ∀ {ps : List PV} {ss : List Sg} {vs : List V}, strsOf ps = some ss → RPs X.K F ps vs → vs = (ss.map mkS).map V.str ∧ ∀ s ∈ ss, okS s = true
  | [], ss, vs, e, h => by
    simp only [strsOf, Option.some.injEq] at e
    subst e
    simp only [RPs] at h
    exact ⟨h, fun _ q => by simp at q⟩
  | .str s :: ps, ss, vs, e, h => by
    simp only [strsOf, Option.map_eq_some_iff] at e
    obtain ⟨ms, e1, e2⟩ := e
    subst e2
    simp only [RPs, RP] at h
    obtain ⟨v, r, h1, h2, h3⟩ := h
    obtain ⟨k1, k2⟩ := strs_vals e1 h3
    subst h1 k1
    refine ⟨by rw [h2.1]; rfl, fun z hz => ?_⟩
    rcases List.mem_cons.mp hz with q | q
    · rw [q]; exact h2.2
    · exact k2 z q
  | .non :: _, _, _, e, _ => by simp [strsOf] at e
  | .bl _ :: _, _, _, e, _ => by simp [strsOf] at e
  | .int _ :: _, _, _, e, _ => by simp [strsOf] at e
  | .tup _ :: _, _, _, e, _ => by simp [strsOf] at e
  | .lst _ :: _, _, _, e, _ => by simp [strsOf] at e
  | .dk _ :: _, _, _, e, _ => by simp [strsOf] at e
  | .dt _ :: _, _, _, e, _ => by simp [strsOf] at e
  | .scr _ :: _, _, _, e, _ => by simp [strsOf] at e
theorem joinS_eq (a : Sg) : ∀ ss : List Sg, joinS a ss = TL.joinL a ss
  | [] => rfl
  | [_] => rfl
  | x :: y :: r => by
    unfold joinS TL.joinL
    rw [joinS_eq a (y :: r)]
theorem okS_app {a b : Sg} (h : okS a = true) (h' : okS b = true) : okS (a ++ b) = true := by
  unfold okS at *
  rw [List.all_append, h, h']; rfl
theorem okS_join {a : Sg} (h : okS a = true) : ∀ {ss : List Sg}, (∀ s ∈ ss, okS s = true) → okS (joinS a ss) = true
  | [], _ => rfl
  | [x], h' => h' x (by simp)
  | x :: y :: r, h' => by
    unfold joinS
    exact okS_app (h' x (by simp)) (okS_app h (okS_join h fun s hs => h' s (List.mem_cons_of_mem _ hs)))
theorem rd_app {F H : Hp} {ρ : List Addr} {st : Store} {σ : L2.St} {x y : LV} {v : V} {vs : List V} {Q : VK} {r : ER} (hh : HR' M X.K F ρ H st) (rx : RL X.K F ρ x v) (rs : RLs X.K F ρ [y] vs) (e : doBM .append x [y] st = some r) (p : PostE M X.K W σ F ρ H Q r) : rAppend v vs H Q := by
  obtain ⟨w, e1, ry⟩ := one_arg rs rfl
  subst e1
  simp only [doBM] at e
  split at e
  · split at e
    · rename_i n zs hz
      obtain ⟨a, ws, ev, ea, h1, h2, h3⟩ := live_at hh rx hz
      split at e
      · rename_i hl
        simp only [Option.some.injEq] at e
        subst e
        refine ⟨a, ws, w, ev, rfl, h1, by rw [← h2.length, line_eq]; exact hl, ?_⟩
        obtain ⟨g2, hh2⟩ := hh.write ea h3 (o := .lst (ws ++ [w])) (c := .lst true (zs ++ [y])) ⟨_, upd_same, h2.snoc ry, fun _ => h3, fun z => Bool.noConfusion z⟩
        exact p _ _ _ _ g2 hh2 (by simp only [RL, RP])
      · cases e
    · cases e
  · cases e
theorem rd_pop0 {F H : Hp} {ρ : List Addr} {st : Store} {σ : L2.St} {x : LV} {v : V} {vs : List V} {Q : VK} {r : ER} (hh : HR' M X.K F ρ H st) (rx : RL X.K F ρ x v) (rs : RLs X.K F ρ [] vs) (e : doBM .pop0 x [] st = some r) (p : PostE M X.K W σ F ρ H Q r) : rPop v vs H Q := by
  simp only [RLs] at rs
  subst rs
  simp only [doBM] at e
  split at e
  · split at e
    · rename_i n zs hz
      obtain ⟨a, ws, ev, ea, h1, h2, h3⟩ := live_at hh rx hz
      split at e
      · rename_i y hy
        simp only [Option.some.injEq] at e
        subst e
        rw [List.getLast?_eq_getElem?] at hy
        obtain ⟨w, k1, k2⟩ := h2.get hy
        refine ⟨a, ws, w, ev, rfl, h1, by rw [← h2.length]; exact k1, ?_⟩
        obtain ⟨g2, hh2⟩ := hh.write ea h3 (o := .lst ws.dropLast) (c := .lst true zs.dropLast) ⟨_, upd_same, RLs.dropLast h2, fun _ => h3, fun z => Bool.noConfusion z⟩
        exact p _ _ _ _ g2 hh2 k2
      · cases e
    · cases e
  · cases e
theorem rd_extend {F H : Hp} {ρ : List Addr} {st : Store} {σ : L2.St} {x y : LV} {v : V} {vs : List V} {Q : VK} {r : ER} (hh : HR' M X.K F ρ H st) (rx : RL X.K F ρ x v) (rs : RLs X.K F ρ [y] vs) (e : doBM .extend x [y] st = some r) (p : PostE M X.K W σ F ρ H Q r) : rExtend v vs H Q := by
  obtain ⟨w, e1, ry⟩ := one_arg rs rfl
  subst e1
  simp only [doBM] at e
  split at e
  · split at e
    · rename_i n q1 q2 zs ys hz hq
      obtain ⟨a, ws, ev, ea, h1, h2, h3⟩ := live_at hh rx hz
      obtain ⟨b, us, ew, k1, k2⟩ := sq_ok hh ry hq
      split at e
      · rename_i hl
        simp only [Option.some.injEq] at e
        subst e
        refine ⟨a, b, ws, us, ev, by rw [ew], h1, k1, by rw [← h2.length, ← k2.length, line_eq]; exact hl, ?_⟩
        obtain ⟨g2, hh2⟩ := hh.write ea h3 (o := .lst (ws ++ us)) (c := .lst true (zs ++ ys)) ⟨_, upd_same, h2.append k2, fun _ => h3, fun z => Bool.noConfusion z⟩
        exact p _ _ _ _ g2 hh2 (by simp only [RL, RP])
      · cases e
    · cases e
  · cases e
theorem rd_insert {F H : Hp} {ρ : List Addr} {st : Store} {σ : L2.St} {x y z : LV} {v : V} {vs : List V} {Q : VK} {r : ER} (hh : HR' M X.K F ρ H st) (rx : RL X.K F ρ x v) (rs : RLs X.K F ρ [y, z] vs) (e : doBM .insert x [y, z] st = some r) (p : PostE M X.K W σ F ρ H Q r) : rIns v vs H Q := by
  simp only [RLs] at rs
  obtain ⟨wy, r', e1, ry, wz, r'', e2, rz, e3⟩ := rs
  subst e1 e2 e3
  simp only [doBM] at e
  split at e
  · rename_i q1 q2 n i
    simp only [RL, RP] at ry
    split at e
    · rename_i q3 zs hz
      obtain ⟨a, ws, ev, ea, h1, h2, h3⟩ := live_at hh rx hz
      split at e
      · rename_i hl
        simp only [Option.some.injEq] at e
        subst e
        refine ⟨a, ws, i, wz, ev, by rw [ry], h1, by rw [← h2.length, line_eq]; exact hl.1, hl.2.1, hl.2.2, ?_⟩
        have hr : RLs X.K F ρ (zs.take i.toNat ++ [z] ++ zs.drop i.toNat) (ws.take i.toNat ++ [wz] ++ ws.drop i.toNat) := ((RLs.take _ h2).snoc rz).append (RLs.drop _ h2)
        obtain ⟨g2, hh2⟩ := hh.write ea h3 (o := .lst (ws.take i.toNat ++ [wz] ++ ws.drop i.toNat)) (c := .lst true (zs.take i.toNat ++ [z] ++ zs.drop i.toNat)) ⟨_, upd_same, hr, fun _ => h3, fun z => Bool.noConfusion z⟩
        exact p _ _ _ _ g2 hh2 (by simp only [RL, RP])
      · cases e
    · cases e
  · cases e
theorem rd_join {F H : Hp} {ρ : List Addr} {st : Store} {σ : L2.St} {x y : LV} {v : V} {vs : List V} {Q : VK} {r : ER} (hh : HR' M X.K F ρ H st) (rx : RL X.K F ρ x v) (rs : RLs X.K F ρ [y] vs) (e : doBM .join x [y] st = some r) (p : PostE M X.K W σ F ρ H Q r) : rJoin X.K v vs H Q := by
  obtain ⟨w, e1, ry⟩ := one_arg rs rfl
  subst e1
  simp only [doBM] at e
  split at e
  · rename_i q1 q2 a xs hxs
    simp only [RL, RP] at rx
    have hk := peek_ok hh ry hxs
    obtain ⟨b, ws, k1, k2, k3⟩ := hk
    split at e
    · rename_i ss hss
      split at e
      · rename_i hl
        simp only [Option.some.injEq] at e
        subst e
        obtain ⟨m1, m2⟩ := strs_vals hss k3
        refine ⟨mkS a, b, ss.map mkS, rx.1, by rw [k1], .inl (.inl (.inl (by rw [← m1]; exact k2))), ?_, ?_⟩
        · rw [List.map_map, List.length_map, mkS_len]
          have : ((fun x : Str => x.length) ∘ mkS) = fun s : Sg => s.length := by funext s; exact mkS_len s
          rw [this]
          exact hl
        · have ej : Txt.join (mkS a) (ss.map mkS) = mkS (joinS a ss) := by
            rw [joinS_eq]
            exact SX.join_S a ss
          rw [ej]
          exact p.tree hh (by simp only [RP, true_and]; exact okS_join rx.2 m2)
      · cases e
    · cases e
  · cases e
theorem rd_index {F H : Hp} {ρ : List Addr} {st : Store} {σ : L2.St} {x y : LV} {v : V} {vs : List V} {Q : VK} {r : ER} (hh : HR' M X.K F ρ H st) (rx : RL X.K F ρ x v) (rs : RLs X.K F ρ [y] vs) (e : doBM .index x [y] st = some r) (p : PostE M X.K W σ F ρ H Q r) : rIndex X.K v vs H Q := by
  obtain ⟨w, e1, ry⟩ := one_arg rs rfl
  subst e1
  simp only [doBM] at e
  split at e
  · rename_i xs z hxs hz
    obtain ⟨b, ws, k1, k2, k3⟩ := peek_ok hh rx hxs
    have hkz := peek_ok hh ry hz
    split at e
    · rename_i hf
      simp only [Bool.and_eq_true] at hf
      split at e
      · rename_i j hj
        simp only [Option.some.injEq] at e
        subst e
        obtain ⟨hj1, hj2, hj3⟩ := List.findIdx?_eq_some_iff_getElem.mp hj
        obtain ⟨u, u1, u2⟩ := k3.get (List.getElem?_eq_getElem hj1)
        refine ⟨b, ws, w, j, u, k1, rfl, .inl (.inl k2), flat_ok hf.1 hkz, flats_ok hf.2 k3, u1, ?_, fun m z' hm hz' => ?_, p.tree hh (by simp only [RP])⟩
        · rw [flat_eq (List.all_eq_true.mp hf.2 _ (List.getElem_mem hj1)) hf.1 (PK.of hh.sub u2) hkz]
          exact hj2
        · have hml : m < xs.length := Nat.lt_trans hm hj1
          obtain ⟨u', v1, v2⟩ := k3.get (List.getElem?_eq_getElem hml)
          rw [v1] at hz'
          cases hz'
          rw [flat_eq (List.all_eq_true.mp hf.2 _ (List.getElem_mem hml)) hf.1 (PK.of hh.sub v2) hkz]
          simpa using hj3 m hm
      · cases e
    · cases e
  · cases e
theorem RLs.erase {K : PySem.W.Frag} {F : Hp} {ρ : List Addr} {xs : List LV} {vs : List V} (h : RLs K F ρ xs vs) (j : Nat) : RLs K F ρ (xs.eraseIdx j) (vs.eraseIdx j) := by
  rw [List.eraseIdx_eq_take_drop_succ, List.eraseIdx_eq_take_drop_succ]
  exact (RLs.take j h).append (RLs.drop (j + 1) h)
theorem ixN_seq {n : Nat} {i : Int} {j : Nat} (h : ixN n i = some j) : PySem.seqIndex? i n = some j := by
  unfold ixN at h
  unfold PySem.seqIndex?
  split at h
  · rename_i h0
    split at h
    · rename_i h1
      cases h
      rw [if_neg (by omega : ¬ i < 0)]
      simp [h0, h1]
    · cases h
  · rename_i h0
    split at h
    · rename_i h1
      cases h
      rw [if_pos (by omega : i < 0)]
      have a : 0 ≤ i + (n : Int) := by omega
      have b : i + (n : Int) < n := by omega
      simp [a, b]
    · cases h
theorem rd_popAt {F H : Hp} {ρ : List Addr} {st : Store} {σ : L2.St} {x y : LV} {v : V} {vs : List V} {Q : VK} {r : ER} (hh : HR' M X.K F ρ H st) (rx : RL X.K F ρ x v) (rs : RLs X.K F ρ [y] vs) (e : doBM .popAt x [y] st = some r) (p : PostE M X.K W σ F ρ H Q r) : rPopAt v vs H Q := by
  obtain ⟨w, e1, ry⟩ := one_arg rs rfl
  subst e1
  simp only [doBM] at e
  split at e
  · rename_i n i
    simp only [RL, RP] at ry
    split at e
    · rename_i zs hz
      obtain ⟨a, ws, ev, ea, h1, h2, h3⟩ := live_at hh rx hz
      split at e
      · rename_i j hj
        split at e
        · rename_i y hy
          split at e
          · rename_i hl
            simp only [Option.some.injEq] at e
            subst e
            obtain ⟨w, k1, k2⟩ := h2.get hy
            have hi : -(zs.length : Int) ≤ i ∧ i < zs.length := by
              unfold ixN at hj
              split at hj
              · split at hj
                · omega
                · cases hj
              · split at hj
                · omega
                · cases hj
            have hz2 : line = 16777216 := rfl
            refine ⟨a, ws, i, j, w, ev, by rw [ry], h1, by omega, by omega, by rw [← h2.length]; exact ixN_seq hj, k1, ?_⟩
            obtain ⟨g2, hh2⟩ := hh.write ea h3 (o := .lst (ws.eraseIdx j)) (c := .lst true (zs.eraseIdx j)) ⟨_, upd_same, h2.erase j, fun _ => h3, fun z => Bool.noConfusion z⟩
            exact p _ _ _ _ g2 hh2 k2
          · cases e
        · cases e
      · cases e
    · cases e
  · cases e
theorem rd_sindex {F H : Hp} {ρ : List Addr} {st : Store} {σ : L2.St} {x y : LV} {v : V} {vs : List V} {Q : VK} {r : ER} (hh : HR' M X.K F ρ H st) (rx : RL X.K F ρ x v) (rs : RLs X.K F ρ [y] vs) (e : doBM .sindex x [y] st = some r) (p : PostE M X.K W σ F ρ H Q r) : rBM X.K .sindex v vs H Q := by
  obtain ⟨w, e1, ry⟩ := one_arg rs rfl
  subst e1
  simp only [doBM] at e
  split at e
  · rename_i a b
    simp only [RL, RP] at rx ry
    split at e
    · rename_i i rest ho
      simp only [Option.some.injEq] at e
      subst e
      exact ⟨mkS a, mkS b, i, rest, rx.1, by rw [ry.1], by rw [mkS_len]; exact ho, p.tree hh (by simp only [RP])⟩
    · cases e
  · cases e
theorem rd_bm {F H : Hp} {ρ : List Addr} {st : Store} {σ : L2.St} {m : BM} {x : LV} {v : V} {xs : List LV} {vs : List V} {Q : VK} {r : ER} (hh : HR' M X.K F ρ H st) (rx : RL X.K F ρ x v) (rs : RLs X.K F ρ xs vs) (e : doBM m x xs st = some r) (p : PostE M X.K W σ F ρ H Q r) :
    rBM X.K m v vs H Q := by
  cases m with
  | append =>
    match xs, rs, e with
    | [y], rs, e => exact rd_app hh rx rs e p
    | [], _, e => simp [doBM] at e
    | _ :: _ :: _, _, e => simp [doBM] at e
  | pop0 =>
    match xs, rs, e with
    | [], rs, e => exact rd_pop0 hh rx rs e p
    | _ :: _, _, e => simp [doBM] at e
  | popAt =>
    match xs, rs, e with
    | [y], rs, e => exact rd_popAt hh rx rs e p
    | [], _, e => simp [doBM] at e
    | _ :: _ :: _, _, e => simp [doBM] at e
  | sindex =>
    match xs, rs, e with
    | [y], rs, e => exact rd_sindex hh rx rs e p
    | [], _, e => simp [doBM] at e
    | _ :: _ :: _, _, e => simp [doBM] at e
  | extend =>
    match xs, rs, e with
    | [y], rs, e => exact rd_extend hh rx rs e p
    | [], _, e => simp [doBM] at e
    | _ :: _ :: _, _, e => simp [doBM] at e
  | insert =>
    match xs, rs, e with
    | [y, z], rs, e => exact rd_insert hh rx rs e p
    | [], _, e => simp [doBM] at e
    | [_], _, e => simp [doBM] at e
    | _ :: _ :: _ :: _, _, e => simp [doBM] at e
  | join =>
    match xs, rs, e with
    | [y], rs, e => exact rd_join hh rx rs e p
    | [], _, e => simp [doBM] at e
    | _ :: _ :: _, _, e => simp [doBM] at e
  | index =>
    match xs, rs, e with
    | [y], rs, e => exact rd_index hh rx rs e p
    | [], _, e => simp [doBM] at e
    | _ :: _ :: _, _, e => simp [doBM] at e
  | get2 =>
    match xs, rs, e with
    | [kx, d], rs, e =>
      simp only [RLs] at rs
      obtain ⟨kv, r', e1, rk, dv, r'', e2, rd, e3⟩ := rs
      subst e1 e2 e3
      simp only [doBM] at e
      cases qx : peek st x with
      | none => simp [qx] at e
      | some q =>
        cases qk : peek st kx with
        | none => rw [qx, qk] at e; cases q <;> simp at e
        | some pk =>
          rw [qx, qk] at e
          exact rd_get2 (x := x) (kx := kx) (q := q) (pk := pk) (d := d) hh (peek_ok hh rx qx) (peek_ok hh rk qk) e p rd
    | [], _, e => simp [doBM] at e
    | [_], _, e => simp [doBM] at e
    | _ :: _ :: _ :: _, _, e => simp [doBM] at e
theorem rd_bmC {m : BM} {to : TE} {t : TA} {fo : Slots → Store → Option ER} {fa : Slots → Store → Option ERs} (ho : RdE M X.K W to fo) (ha : RdA M X.K W t fa) :
    RdE M X.K W (tBM X.K (bmT m) (rBM X.K m) to t) fun φ st => R.bind (fo φ st) fun x st => if bmOk m x st then Rs.bind (fa φ st) fun vs st => doBM m x vs st else none := by
  intro σ H Q φ F ρ st r hh hs e p
  refine ho.bind hh hs e p fun x st1 F1 ρ1 H1 v e1 g1 h1 r1 p1 => ?_
  split at e1
  · rename_i hok
    refine ⟨ty_bm h1 r1 hok, ?_⟩
    refine ha.bind h1 (hs.g g1) e1 p1 fun xs st2 F2 ρ2 H2 vs e2 g2 h2 r2 p2 => ?_
    exact rd_bm h2 (RL.mono g2.sub g2.pre _ _ r1) r2 e2 p2
  · cases e1
theorem rd_bmC0 {m : BM} {to : TE} {fo : Slots → Store → Option ER} (ho : RdE M X.K W to fo) :
    RdE M X.K W (tBM0 X.K (bmT m) (rBM X.K m) to) fun φ st => R.bind (fo φ st) fun x st => if bmOk m x st then Rs.bind (some (.ok [] st)) fun vs st => doBM m x vs st else none := by
  intro σ H Q φ F ρ st r hh hs e p
  refine ho.bind hh hs e p fun x st1 F1 ρ1 H1 v e1 g1 h1 r1 p1 => ?_
  split at e1
  · rename_i hok
    exact ⟨ty_bm h1 r1 hok, rd_bm h1 r1 (by simp only [RLs]) e1 p1⟩
  · cases e1
theorem se_bm (hu : room2 X) {m : BM} {r : ME} {es : List ME} {o : Expr} {xs : List Expr} {apos cpos : Pos} (hl : es.length = bmAr m) (hline : (apos.endLine == cpos.line) = true) (hb : (match o with
      | .Call _ [] _ _ => false
      | _ => true) = true) (ho : SE X M S W r o) (hs : SEs X M S W es xs) : SE X M S W (.bm m r es) (.Call (.Attribute o (bmName m) apos) xs [] cpos) := by
  obtain ⟨to, o1, o2⟩ := ho
  obtain ⟨id, B⟩ := bm_ok hu m
  have st := hs.star
  have len := hs.len
  have few : xs.length < 20 := by
    rw [← len, hl]
    cases m <;> decide
  cases xs with
  | nil =>
    have hes : es = [] := List.length_eq_zero_iff.mp len
    subst hes
    refine ⟨_, pe_bm0 B.pa B.slot B.ty B.mt o1 (base_plain hb) hline, fun σ H Q φ F ρ st r hh hs e p => rd_bmC0 o2 σ H Q φ F ρ st r hh hs (by simpa only [evE, evEs] using e) p⟩
  | cons y ys =>
    obtain ⟨t, a1, a2⟩ := hs.pa
    have st' := st
    simp only [List.all_cons, Bool.and_eq_true, Bool.not_eq_true'] at st
    refine ⟨_, pe_bm B.pa B.slot B.ty B.mt o1 a1 (base_plain hb) (few_ok st' few) hline (star_each st.1) (star_plain st.2), fun σ H Q φ F ρ st r hh hs e p => rd_bmC o2 a2 σ H Q φ F ρ st r hh hs (by simpa only [evE] using e) p⟩
/-! ### a module's tuples of texts -/
theorem atI_map {α β : Type} (f : α → β) (xs : List α) (i : Int) : atI (xs.map f) i = (atI xs i).map f := by
  unfold atI
  rw [List.length_map]
  cases ixN xs.length i with
  | none => rfl
  | some j => simp
theorem rd_tabI {tb : TE} {f : Slots → Store → Option ER} {a : Addr} {ps : List Sg} (T : ∀ H, SqT X.K H a ((ps.map mkS).map V.str)) (ok : ∀ p ∈ ps, okS p = true) (hb : RdE M X.K W tb f) :
    RdE M X.K W (tOp (rIxZ X.K) (tC (.ref a)) tb) fun φ st => R.bind (f φ st) fun y st => match some ps, y with
      | some ps, .pv (.int i) => okP st ((atI ps i).map .str)
      | _, _ => none := by
  intro σ H Q φ F ρ st r hh hs e p
  show tb σ H _
  refine hb.bind hh hs e p fun y st1 F1 ρ1 H1 v e1 g1 h1 r1 p1 => ?_
  split at e1
  · rename_i qs i eq1
    cases eq1
    cases hi : atI ps i with
    | none => rw [hi] at e1; cases e1
    | some s =>
      rw [hi] at e1
      simp only [Option.map_some, okP, Option.some.injEq] at e1
      subst e1
      simp only [RL, RP] at r1
      refine .inr (.inl ⟨a, _, i, .str (mkS s), rfl, r1, T H1, by rw [atI_eq, atI_map, atI_map, hi]; rfl, p1.tree h1 ?_⟩)
      simp only [RP, true_and]
      exact ok s (atI_mem hi)
  · cases e1
def rTI (K : PySem.W.Frag) : V → List V → Hp → VK → Prop := fun x xs H Q => ∃ p, ∃ ys : List Str, ∃ z j, x = .ref p ∧ xs = [.str z] ∧ SqT K H p (ys.map V.str) ∧ ys[j]? = some z ∧ (∀ m, m < j → ys[m]? ≠ some z) ∧ Q (.int (j : Nat)) H
theorem mkS_inj' {x y : Sg} (h : mkS x = mkS y) : x = y := by
  have := congrArg (fun s : Str => s.cps.toList) h
  simpa [mkS] using this
theorem rd_tabX {t : TA} {fa : Slots → Store → Option ERs} {a : Addr} {ps : List Sg} (T : ∀ H, SqT X.K H a ((ps.map mkS).map V.str)) (ty : ∃ o, X.K.lookup a = some o ∧ o.cls = .type "tuple" ∧ o.dict = none) (ha : RdA M X.K W t fa) :
    RdE M X.K W (tBM X.K "tuple" (rTI X.K) (tC (.ref a)) t) fun φ st => Rs.bind (fa φ st) fun vs st => match some ps, vs with
      | some ps, [.pv (.str z)] => (ps.findIdx? fun x => decide (x = z)).map fun j => .ok (.pv (.int (j : Nat))) st
      | _, _ => none := by
  intro σ H Q φ F ρ st r hh hs e p
  refine ⟨.inr (.inl ⟨rfl, ty⟩), ?_⟩
  refine ha.bind hh hs e p fun xs st1 F1 ρ1 H1 vs e1 g1 h1 r1 p1 => ?_
  split at e1
  · rename_i qs z eq1
    cases eq1
    simp only [RLs, RL, RP] at r1
    obtain ⟨w, rest, ev, ⟨rw', okz⟩, er⟩ := r1
    subst er rw' ev
    simp only [Option.map_eq_some_iff] at e1
    obtain ⟨j, hj, e2⟩ := e1
    subst e2
    obtain ⟨hj1, hj2, hj3⟩ := List.findIdx?_eq_some_iff_getElem.mp hj
    simp only [decide_eq_true_eq] at hj2
    refine ⟨a, ps.map mkS, mkS z, j, rfl, rfl, T H1, ?_, fun m hm => ?_, p1.tree h1 (by simp only [RP])⟩
    · rw [List.getElem?_map, List.getElem?_eq_getElem hj1, hj2]; rfl
    · have h3 := hj3 m hm
      simp only [Bool.not_eq_true, decide_eq_false_iff_not] at h3
      rw [List.getElem?_map, List.getElem?_eq_getElem (by omega)]
      simp only [Option.map_some]
      intro hc
      exact h3 (mkS_inj' (Option.some.inj hc))
  · cases e1
end
end Z
end

section
/-! ZOd: written dicts, dict(d), lists joined that stay live. -/
namespace Z
open PySem PySem.Spec PyProof.Rows L2
section
variable {X : Cx} {g : SC} {M : Nm} {S : Sem} {W : WX} {k : Nat}
theorem merge_nodup : ∀ (zs acc : List (Key × V)), (zs.map (·.1)).Nodup → (∀ z ∈ zs, ∀ q ∈ acc, q.1 ≠ z.1) → mergeK acc zs = acc ++ zs
  | [], acc, _, _ => by simp [mergeK]
  | (k, v) :: zs, acc, h, h' => by
    have hp : putK acc k v = acc ++ [(k, v)] := by
      unfold putK
      rw [if_neg]
      intro hc
      obtain ⟨q, q1, q2⟩ := List.any_eq_true.mp hc
      exact h' (k, v) (by simp) q q1 (of_decide_eq_true q2)
    obtain ⟨h1, h2⟩ := List.nodup_cons.mp h
    have := merge_nodup zs (acc ++ [(k, v)]) h2 fun z hz q hq => by
      rcases List.mem_append.mp hq with a | a
      · exact h' z (by simp [hz]) q a
      · rw [List.mem_singleton.mp a]
        intro e
        exact h1 (List.mem_map.mpr ⟨z, hz, e.symm⟩)
    show mergeK (putK acc k v) zs = _
    rw [hp, this]
    simp
theorem keyC_ok {k : Ky} {c : Const} {n : Nat} {pos : Pos} (h : keyC k c = true) : PE X (.Constant c n pos) (tC (kV (kyS k))) ∧ okK k = true := by
  cases k <;> cases c <;> simp only [keyC, Bool.and_eq_true, decide_eq_true_eq, beq_iff_eq, Bool.false_eq_true] at h
  · subst h; exact ⟨pe_int, rfl⟩
  · obtain ⟨h1, h2⟩ := h
    subst h1
    exact ⟨pe_str, h2⟩
theorem kyS_inj' {a b : Ky} (h : kyS a = kyS b) : a = b := by
  cases a <;> cases b <;> simp only [kyS, Sum.inl.injEq, Sum.inr.injEq, reduceCtorEq] at h
  · rw [h]
  · rw [mkS_inj' h]
theorem dsel_pps {pos : Pos} : ∀ {kvs : List (Ky × PV)} {ks : List (Option Expr)} {vs : List Expr}, dselOk kvs ks vs = true → ∃ trs zs, PPs X pos ks vs trs ∧ RPk X.K (fun _ => none) kvs zs ∧ zs.map (·.1) = kvs.map (kyS ·.1) ∧ ks.length = kvs.length ∧ vs.length = kvs.length ∧ ks.all (·.isSome) = true ∧
    ∀ σ H (Q : List (V × V) → Hp → Prop), Q (zs.map fun kv => (kV kv.1, kv.2)) H → tPairs trs σ H Q
  | [], ks, vs, h => by
    simp only [dselOk, Bool.and_eq_true, List.isEmpty_iff] at h
    obtain ⟨h1, h2⟩ := h
    subst h1 h2
    exact ⟨[], [], pps_nil, by simp only [RPk], rfl, rfl, rfl, rfl, fun σ H Q q => q⟩
  | (k, p) :: r, ks, vs, h => by
    unfold dselOk at h
    split at h
    · rename_i c n1 p1 ks' d n2 p2 vs'
      simp only [Bool.and_eq_true] at h
      obtain ⟨⟨h1, h2⟩, h3⟩ := h
      obtain ⟨k1, k2⟩ := keyC_ok (X := X) (n := n1) (pos := p1) h1
      obtain ⟨v, v1, v2⟩ := lit_ok (X := X) (n := n2) (pos := p2) h2
      obtain ⟨trs, zs, a1, a2, a3, a4, a5, a6, a7⟩ := dsel_pps (pos := pos) h3
      refine ⟨_, (kyS k, v) :: zs, pps_cons k1 v1 a1, ?_, by simp [a3], by simp [a4], by simp [a5], by simpa using a6, fun σ H Q q => ?_⟩
      · simp only [RPk]
        exact ⟨v, zs, rfl, k2, v2, a2⟩
      · exact a7 σ H _ q
    · cases h
theorem se_dsel (hu : room2 X) {kvs : List (Ky × PV)} {ks : List (Option Expr)} {vs : List Expr} {y : Expr} {i : ME} {p1 pos : Pos} (h : dselOk kvs ks vs = true) (h15 : kvs.length ≤ 15) (h0 : kvs.isEmpty = false) (nd : (kvs.map (·.1)).Nodup) (hs : isSlice y = false) (hi : SE X M S W i y) :
    SE X M S W (.dsel kvs i) (.Subscript (.Dict ks vs p1) y pos) := by
  obtain ⟨t, i1, i2⟩ := hi
  obtain ⟨trs, zs, a1, a2, a3, a4, a5, a6, a7⟩ := dsel_pps (X := X) (pos := p1) h
  have hne : ks ≠ [] := by
    intro e
    subst e
    have : kvs = [] := List.length_eq_zero_iff.mp a4.symm
    subst this
    cases h0
  refine ⟨_, pe_dget (by have h1 : X.A.units + 600 < cLine := hu; omega) (pe_disp a1 a6 (by rw [a4, a5]) hne (by omega)) i1 (plainIx hs), ?_⟩
  intro σ H Q φ F ρ st r hh hsl e p
  show tDisp trs σ H _
  intro a na
  refine a7 σ _ _ ?_
  refine ⟨upd_same, zs, rfl, ?_, ?_⟩
  · have := congrArg List.length a3
    simp only [List.length_map] at this
    omega
  have ndz : (zs.map (·.1)).Nodup := by
    rw [a3, show (kvs.map fun x => kyS x.1) = (kvs.map (·.1)).map kyS by rw [List.map_map]; rfl]
    exact List.Pairwise.map kyS (fun x y hxy e => hxy (kyS_inj' e)) nd
  rw [merge_nodup zs [] ndz (fun z _ q hq => by simp at hq), List.nil_append]
  have hu2 : upd (upd H a (.dK [])) a (.dK zs) = upd H a (.dK zs) := by funext b; unfold upd; split <;> rfl
  rw [hu2]
  obtain ⟨g1, h1⟩ := hh.laid na (.dK zs)
  have nF := hh.fresh na
  have nρ := hh.notin na
  simp only [evE] at e
  refine i2.bind h1 (hsl.g g1) e (p.g g1) fun x st1 F1 ρ1 H1 v e1 g2 h2 r1 p1 => ?_
  have keep : H1 a = some (.dK zs) := g2.keep a _ upd_same nρ
  match x, e1, r1 with
  | .pv q, e1, r1 =>
    simp only at e1
    cases hk : keyK q with
    | none => simp [hk] at e1
    | some ky =>
      simp only [hk] at e1
      cases hl : look ky kvs with
      | none => simp [hl, okP] at e1
      | some z =>
        simp only [hl, okP, Option.some.injEq] at e1
        subst e1
        simp only [RL] at r1
        obtain ⟨k1, _⟩ := kV_of hk (PK.of h2.sub r1)
        rcases valV_k (K := X.K) (F := fun _ => none) ky a2 with ⟨l1, _⟩ | ⟨z', w, l1, l2, l3⟩
        · rw [hl] at l1; cases l1
        · rw [hl] at l1
          cases l1
          refine ⟨a, w, rfl, ?_, p1.tree h2 (RP.mono (fun _ _ q => by cases q) _ _ l3)⟩
          rw [k1, ← l2]
          exact DGet.k keep
  | .ref _, e1, _ => cases e1
  | .tup _, e1, _ => cases e1
  | .exn _, e1, _ => cases e1
theorem ix_kd {d : Addr} {es : Array DictEntry} {n : Nat} (D : KDict X.K X.w d es n) : IxR X (fun x y H Q => ∃ (z : Str) (u0 : Value) (v0 : V), x = .ref d ∧ y = .str z ∧ PySem.W.nsIn X.K d z = some (some u0) ∧ RelV v0 u0 ∧ Q v0 H) := by
  intro value slice pins s σ H x y v u Q I rx ry h hs
  have hx := h
  obtain ⟨z, u0, v0, ex, ey, _⟩ := hx
  subst ex
  have rx' := rx
  cases rx'
  exact tail_any (kd_type D I) PySem.slot_dict_getitem.lookup (op_item_kd D pins s σ H _ y _ u Q I rx ry h) hs
theorem look_mem {k : Sg} {v : PV} : ∀ {kvs : List (Sg × PV)}, look k kvs = some v → (k, v) ∈ kvs
  | [], h => by simp [look] at h
  | (j, x) :: r, h => by
    unfold look at h
    split at h
    · rename_i e
      cases h
      rw [e]; simp
    · exact List.mem_cons_of_mem _ (look_mem h)
theorem se_tabD {t : Nat} {i : ME} {x : Str} {y : Expr} {p1 pos : Pos} {kvs : List (Sg × PV)} {a : Addr} (hS : S.dtab t = some kvs) (hm : X.mg x = some (.ref a)) (D : DtOk X.K X.w a kvs) (hg : Gl X x) (hn : (x == ("__debug__" : Str)) = false) (hs : isSlice y = false) (hi : SE X M S W i y) :
    SE X M S W (.tabD t i) (.Subscript (.Name x p1) y pos) := by
  obtain ⟨tb, b1, b2⟩ := hi
  obtain ⟨es, n, KD, hv⟩ := D
  refine ⟨_, pe_ix (ix_kd KD) (pe_glob (v := .ref a) hg hm rfl hn) b1 (plainIx hs), ?_⟩
  intro σ H Q φ F ρ st r hh hsl e p
  simp only [evE] at e
  show tb σ H _
  refine b2.bind hh hsl e p fun z st1 F1 ρ1 H1 v e1 g1 h1 r1 p1 => ?_
  rw [hS] at e1
  split at e1
  · rename_i kvs' z eq1
    cases eq1
    cases hl : look z kvs with
    | none => simp [hl, okP] at e1
    | some q =>
      simp only [hl, okP, Option.some.injEq] at e1
      subst e1
      simp only [RL, RP] at r1
      obtain ⟨u, w, h2, h3, h4⟩ := hv _ (look_mem hl)
      exact ⟨mkS z, u, w, rfl, r1.1, h2, h3, p1.tree h1 (RP.mono (fun _ _ q => by cases q) _ _ h4)⟩
  · cases e1
theorem se_dcopy {a : ME} {x : Expr} {p1 pos : Pos} (hg : Gl X "dict") (hm : X.mg "dict" = none) (hst : isStar x = false) (ha : SE X M S W a x) : SE X M S W (.dcopy a) (.Call (.Name dictN p1) [x] [] pos) := by
  obtain ⟨t, a1, a2⟩ := ha
  have sa : starEach [x] X.env = (false, eval x X.env) :: starEach [] X.env := by rw [star_each hst]
  refine ⟨_, pe_callTy call_dictD hg hm (by decide +kernel : bootBuiltins "dict" = some (.type "dict")) (pa_cons a1 pa_nil sa) (by decide) (by decide) sa rfl, ?_⟩
  intro σ H Q φ F ρ st r hh hsl e p
  simp only [evE] at e
  show t σ H _
  refine a2.bind hh hsl e p fun y st1 F1 ρ1 H1 v e1 g1 h1 r1 p1 => ?_
  cases hp : peek st1 y with
  | none => simp [hp] at e1
  | some q =>
    simp only [hp] at e1
    cases q <;> simp only [Option.some.injEq, reduceCtorEq] at e1
    rename_i kvs
    subst e1
    obtain ⟨b, ks, ev, hb, rk⟩ := peek_ok h1 r1 hp
    subst ev
    refine ⟨b, ks, rfl, .inl hb, fun c nc => ?_⟩
    obtain ⟨g2, h2⟩ := h1.cellN nc (o := .dK ks) (c := .dk true (kvs.map fun kv => (kv.1, LV.pv kv.2))) ⟨ks, upd_same, RLk_pv.mpr rk, fun _ => h1.fresh nc, fun z => Bool.noConfusion z⟩
    refine p1 _ _ _ _ g2 (by simpa using h2) ?_
    simp only [RL]
    exact ⟨c, rfl, by rw [← h1.len, List.getElem?_append_right (Nat.le_refl _)]; simp⟩
section
variable {K : PySem.W.Frag} {F : Hp} {ρ : List Addr}
theorem any_k {k : Ky} : ∀ {kvs : List (Ky × LV)} {ks : List (Key × V)}, RLk K F ρ kvs ks → (ks.any fun kv => decide (kv.1 = kyS k)) = has k kvs
  | [], ks, h => by simp only [RLk] at h; subst h; rfl
  | (j, p) :: r, ks, h => by
    simp only [RLk] at h
    obtain ⟨v, s, e1, e2, e3, e4⟩ := h
    subst e1
    by_cases hj : j = k
    · subst hj; simp [has, look]
    · have hn : ¬ kyS j = kyS k := fun e => hj (kyS_inj e)
      have ih := any_k (k := k) e4
      simp only [has, look, if_neg hj, List.any_cons, hn, decide_false, Bool.false_or] at ih ⊢
      exact ih
theorem map_k {k : Ky} {x : LV} {v : V} (rx : RL K F ρ x v) : ∀ {kvs : List (Ky × LV)} {ks : List (Key × V)}, RLk K F ρ kvs ks → RLk K F ρ (kvs.map fun kv => if kv.1 = k then (kv.1, x) else kv) (ks.map fun kv => if kv.1 = kyS k then (kv.1, v) else kv)
  | [], ks, h => by simp only [RLk] at h; subst h; simp [RLk]
  | (j, p) :: r, ks, h => by
    simp only [RLk] at h
    obtain ⟨w, s, e1, e2, e3, e4⟩ := h
    subst e1
    have ih := map_k (k := k) rx e4
    by_cases hj : j = k
    · subst hj
      simp only [List.map_cons, if_true, RLk]
      exact ⟨v, _, rfl, e2, rx, ih⟩
    · have hn : ¬ kyS j = kyS k := fun e => hj (kyS_inj e)
      simp only [List.map_cons, if_neg hj, if_neg hn, RLk]
      exact ⟨w, _, rfl, e2, e3, ih⟩
theorem snoc_k {k : Ky} {x : LV} {v : V} (hk : okK k = true) (rx : RL K F ρ x v) : ∀ {kvs : List (Ky × LV)} {ks : List (Key × V)}, RLk K F ρ kvs ks → RLk K F ρ (kvs ++ [(k, x)]) (ks ++ [(kyS k, v)])
  | [], ks, h => by simp only [RLk] at h; subst h; simp only [List.nil_append, RLk]; exact ⟨v, [], rfl, hk, rx, rfl⟩
  | (j, p) :: r, ks, h => by
    simp only [RLk] at h
    obtain ⟨w, s, e1, e2, e3, e4⟩ := h
    subst e1
    simp only [List.cons_append, RLk]
    exact ⟨w, _, rfl, e2, e3, snoc_k hk rx e4⟩
theorem put_k {k : Ky} {x : LV} {v : V} {kvs : List (Ky × LV)} {ks : List (Key × V)} (hk : okK k = true) (rx : RL K F ρ x v) (h : RLk K F ρ kvs ks) : RLk K F ρ (putD k x kvs) (putK ks (kyS k) v) := by
  unfold putD putK
  rw [any_k h]
  split
  · exact map_k rx h
  · exact snoc_k hk rx h
theorem merge_k : ∀ {m : List (Ky × PV)} {kvs : List (Key × V)} {acc : List (Ky × LV)} {ks : List (Key × V)}, RPk K F m kvs → RLk K F ρ acc ks → RLk K F ρ (mergeD acc m) (mergeK ks kvs)
  | [], kvs, acc, ks, h, h2 => by
    simp only [RPk] at h
    subst h
    exact h2
  | (k, p) :: m, kvs, acc, ks, h, h2 => by
    simp only [RPk] at h
    obtain ⟨v, r, e1, e2, e3, e4⟩ := h
    subst e1
    show RLk K F ρ (mergeD (putD k (.pv p) acc) m) (mergeK (putK ks (kyS k) v) r)
    exact merge_k e4 (put_k e2 (by simp only [RL]; exact e3) h2)
theorem pairs_ok {H : Hp} (s : Sub F H) : ∀ {ps : List PV} {vs : List V} {m : List (Ky × PV)}, RPs K F ps vs → pairsK ps = some m → ∃ (as : List Addr) (kvs : List (Key × V)), vs = as.map V.ref ∧ Paired (fun p kv => SqT K H p [kV kv.1, kv.2]) as kvs ∧ RPk K F m kvs
  | [], vs, m, h, e => by
    simp only [RPs] at h
    simp only [pairsK, Option.some.injEq] at e
    subst h e
    exact ⟨[], [], rfl, .nil, by simp only [RPk]⟩
  | p :: r, vs, m, h, e => by
    simp only [RPs] at h
    obtain ⟨v, r', e1, h1, h2⟩ := h
    subst e1
    unfold pairsK at e
    split at e
    · rename_i eq1; cases eq1
    · rename_i k x r2 eq1
      cases eq1
      split at e
      · rename_i ky m2 hk hm
        simp only [Option.some.injEq] at e
        subst e
        obtain ⟨as, kvs, e2, e3, e4⟩ := pairs_ok s h2 hm
        simp only [RP, RPs] at h1
        obtain ⟨a, us, e5, e6, w1, q1, e7, r1, w2, q2, e8, r3, e9⟩ := h1
        subst e9 e8 e7 e5 e2
        obtain ⟨hv, ho⟩ := kV_of hk (PK.of s r1)
        subst hv
        exact ⟨a :: as, (kyS ky, w2) :: kvs, rfl, .cons (.of (s _ _ e6)) e3, by simp only [RPk]; exact ⟨w2, kvs, rfl, ho, r3, e4⟩⟩
      · cases e
    · cases e
end
theorem se_dpairs {a : ME} {x : Expr} {p1 pos : Pos} (hc : X.calm = true) (hg : Gl X "dict") (hm : X.mg "dict" = none) (hst : isStar x = false) (ha : SE X M S W a x) : SE X M S W (.dpairs a) (.Call (.Name dictN p1) [x] [] pos) := by
  obtain ⟨t, a1, a2⟩ := ha
  have sa : starEach [x] X.env = (false, eval x X.env) :: starEach [] X.env := by rw [star_each hst]
  refine ⟨_, pe_callTy (call_dictP hc) hg hm (by decide +kernel : bootBuiltins "dict" = some (.type "dict")) (pa_cons a1 pa_nil sa) (by decide) (by decide) sa rfl, ?_⟩
  intro σ H Q φ F ρ st r hh hsl e p
  simp only [evE] at e
  show t σ H _
  refine a2.bind hh hsl e p fun y st1 F1 ρ1 H1 v e1 g1 h1 r1 p1 => ?_
  cases hp : peek st1 y with
  | none => simp [hp] at e1
  | some q =>
    simp only [hp] at e1
    split at e1
    · rename_i ps eq1
      cases eq1
      split at e1
      · rename_i m hm'
        simp only [Option.some.injEq] at e1
        subst e1
        obtain ⟨b, vs, ev, hb, rk⟩ := peek_ok h1 r1 hp
        subst ev
        obtain ⟨as, kvs, e2, e3, e4⟩ := pairs_ok h1.sub rk hm'
        subst e2
        refine ⟨b, as, kvs, rfl, .of hb, e3, fun c nc => ?_⟩
        obtain ⟨g2, h2⟩ := h1.cellN nc (o := .dK (mergeK [] kvs)) (c := .dk true (mergeD [] m)) ⟨mergeK [] kvs, upd_same, merge_k e4 (by simp only [RLk]), fun _ => h1.fresh nc, fun z => Bool.noConfusion z⟩
        refine p1 _ _ _ _ g2 (by simpa using h2) ?_
        simp only [RL]
        exact ⟨c, rfl, by rw [← h1.len, List.getElem?_append_right (Nat.le_refl _)]; simp⟩
      · cases e1
    · cases e1
theorem se_lcopy {a : ME} {x : Expr} {p1 pos : Pos} (hu : room2 X) (hg : Gl X (biName .list)) (hm : X.mg (biName .list) = none) (hst : isStar x = false) (ha : SE X M S W a x) : SE X M S W (.lcopy a) (.Call (.Name (biName .list) p1) [x] [] pos) := by
  obtain ⟨t, a1, a2⟩ := ha
  have sa : starEach [x] X.env = (false, eval x X.env) :: starEach [] X.env := by rw [star_each hst]
  refine ⟨_, pe_bi (b := .list) hu (fun z => Bool.noConfusion z) (fun z => Bool.noConfusion z) hg hm (pa_cons a1 pa_nil sa) sa rfl, ?_⟩
  intro σ H Q φ F ρ st r hh hsl e p
  simp only [evE] at e
  show t σ H _
  refine a2.bind hh hsl e p fun y st1 F1 ρ1 H1 v e1 g1 h1 r1 p1 => ?_
  cases q1 : sq st1 y with
  | none => simp [q1] at e1
  | some xs =>
    simp only [q1] at e1
    split at e1
    · simp only [Option.some.injEq] at e1
      subst e1
      obtain ⟨c, zs, ec, hc, rc⟩ := sq_ok h1 r1 q1
      subst ec
      refine ⟨c, zs, rfl, .inl (.of hc), fun m nm => ?_⟩
      obtain ⟨g3, h3⟩ := h1.cellN nm (o := .lst zs) (c := .lst true xs) ⟨zs, upd_same, RLs.mono (Sub.refl _) (Pre.snoc _ _) _ _ rc, fun _ => h1.fresh nm, fun z => Bool.noConfusion z⟩
      refine p1 _ _ _ _ g3 (by simpa using h3) ?_
      simp only [RL]
      exact ⟨m, rfl, by rw [← h1.len, List.getElem?_append_right (Nat.le_refl _)]; simp⟩
    · cases e1
theorem se_cat {a b : ME} {x y : Expr} {pos : Pos} (ha : SE X M S W a x) (hb : SE X M S W b y) : SE X M S W (.cat a b) (.BinOp x .Add y pos) := by
  obtain ⟨ta, a1, a2⟩ := ha
  obtain ⟨tb, b1, b2⟩ := hb
  refine ⟨_, pe_op op_cat a1 b1, ?_⟩
  intro σ H Q φ F ρ st r hh hsl e p
  simp only [evE] at e
  show ta σ H _
  refine a2.bind hh hsl e p fun u st1 F1 ρ1 H1 v e1 g1 h1 r1 p1 => ?_
  refine b2.bind h1 (hsl.g g1) e1 p1 fun w st2 F2 ρ2 H2 v2 e2 g2 h2 r2 p2 => ?_
  have r1' := RL.mono g2.sub g2.pre _ _ r1
  cases q1 : sq st2 u with
  | none => simp [q1] at e2
  | some xs =>
    cases q2 : sq st2 w with
    | none => simp [q1, q2] at e2
    | some ys =>
      simp only [q1, q2] at e2
      split at e2
      · rename_i hl
        simp only [Option.some.injEq] at e2
        subst e2
        obtain ⟨c, zs, ec, hc, rc⟩ := sq_ok h2 r1' q1
        obtain ⟨d, ws, ed, hd, rd⟩ := sq_ok h2 r2 q2
        refine ⟨c, d, zs, ws, ec, ed, hc, hd, by rw [← rc.length, ← rd.length, line_eq]; exact hl, fun m nm => ?_⟩
        have rr : RLs X.K F2 ρ2 (xs ++ ys) (zs ++ ws) := rc.append rd
        obtain ⟨g3, h3⟩ := h2.cellN nm (o := .lst (zs ++ ws)) (c := .lst true (xs ++ ys)) ⟨zs ++ ws, upd_same, RLs.mono (Sub.refl _) (Pre.snoc _ _) _ _ rr, fun _ => h2.fresh nm, fun z => Bool.noConfusion z⟩
        refine p2 _ _ _ _ g3 (by simpa using h3) ?_
        simp only [RL]
        exact ⟨m, rfl, by rw [← h2.len, List.getElem?_append_right (Nat.le_refl _)]; simp⟩
      · cases e2
end
end Z
end

section
/-! ZP: the theorem for expressions, all constructs. -/
namespace Z
open PySem PySem.Spec PyProof.Rows L2
section
variable {X : Cx} {g : SC} {M : Nm} {S : Sem} {W : WX} {k : Nat}
theorem boolop_ok (c : Bool) (pos : Pos) : ∀ {ms : List ME} {es : List Expr}, ms ≠ [] → SEs X M S W ms es → ∃ t, PE X (.BoolOp (if c then .And else .Or) es pos) t ∧ RdE M X.K W t (evB S c ms)
  | [], _, h, _ => absurd rfl h
  | [m], es, _, h => by
    obtain ⟨e, r, h1, h2, ⟨t, h3, h4⟩, h5⟩ := h
    have h5' : r = [] := h5
    subst h1 h5'
    exact ⟨_, pe_one h3, fun σ H Q φ F ρ st r hh hs e p => h4 σ H Q φ F ρ st r hh hs (by simpa only [evB] using e) p⟩
  | m :: m' :: ms, es, _, h => by
    obtain ⟨e, r, h1, h2, ⟨t, h3, h4⟩, h5⟩ := h
    subst h1
    obtain ⟨t', h6, h7⟩ := boolop_ok c pos (ms := m' :: ms) (es := r) (by simp) h5
    obtain ⟨e', r', h8, _⟩ := h5
    subst h8
    refine ⟨if c then tAndT X.K t t' else tOrT X.K t t', ?_, fun σ H Q φ F ρ st r hh hs e p => rd_boolop2 h4 h7 σ H Q φ F ρ st r hh hs (by simp only [evB] at e; exact e) p⟩
    cases c with
    | true => exact pe_andT h3 h6
    | false => exact pe_orT h3 h6
theorem boolopT_ok (c : Bool) (pos : Pos) : ∀ {ms : List MT} {es : List Expr}, ms ≠ [] → STs X M S W ms es → ∃ t, PW X (.BoolOp (if c then .And else .Or) es pos) t ∧ RdT M X.K W t (evBT S c ms)
  | [], _, h, _ => absurd rfl h
  | [m], es, _, h => by
    obtain ⟨e, r, h1, ⟨t, h3, h4⟩, h5⟩ := h
    have h5' : r = [] := h5
    subst h1 h5'
    refine ⟨t, ?_, fun σ H Q φ F ρ st r hh hs e p => h4 σ H Q φ F ρ st r hh hs (by simpa only [evBT] using e) p⟩
    cases c with
    | true => exact pw_and1 h3
    | false => exact pw_or1 h3
  | m :: m' :: ms, es, _, h => by
    obtain ⟨e, r, h1, ⟨t, h3, h4⟩, h5⟩ := h
    subst h1
    obtain ⟨t', h6, h7⟩ := boolopT_ok c pos (ms := m' :: ms) (es := r) (by simp) h5
    obtain ⟨e', r', h8, _⟩ := h5
    subst h8
    refine ⟨if c then tAnd t t' else tOr t t', ?_, fun σ H Q φ F ρ st r hh hs e p => rd_boolopT2 h4 h7 σ H Q φ F ρ st r hh hs (by simp only [evBT] at e; exact e) p⟩
    cases c with
    | true => exact pw_and h3 h6
    | false => exact pw_or h3 h6
theorem rd_cmpT {ta tb : TE} {fa fb : Slots → Store → Option ER} (ha : RdE M X.K W ta fa) (hb : RdE M X.K W tb fb) (op : CO) :
    RdT M X.K W (tTest (tOp (rCmp X.K op) ta tb)) fun φ st => R.bt (fa φ st) fun x st => R.bt (fb φ st) fun y st => cmpT op x y st := by
  intro σ H Q φ F ρ st res hh hs e p
  show ta σ H _
  refine ha.bindT hh hs e p fun x st1 F1 ρ1 H1 v e1 g1 h1 r1 p1 => ?_
  refine hb.bindT h1 (hs.g g1) e1 p1 fun y st2 F2 ρ2 H2 w e2 g2 h2 r2 p2 => ?_
  unfold cmpT at e2
  have r1' := RL.mono g2.sub g2.pre x v r1
  cases ex : peek st2 x with
  | none => simp [ex] at e2
  | some a =>
    cases ey : peek st2 y with
    | none => simp [ex, ey] at e2
    | some b =>
      simp only [ex, ey, Option.map_eq_some_iff] at e2
      obtain ⟨c, e3, e4⟩ := e2
      subst e4
      refine rd_cmpP (W := W) (σ := σ) (st := st2) h2 (peek_ok h2 r1' ex) (peek_ok h2 r2 ey) e3 fun F3 ρ3 H3 z g3 h3 r3 => ?_
      simp only [RL, RP] at r3
      exact ⟨c, r3, p2 F3 ρ3 H3 g3 h3⟩
theorem rd_chain {ta tb tc : TE} {fa fb fc : Slots → Store → Option ER} (ha : RdE M X.K W ta fa) (hb : RdE M X.K W tb fb) (hc : RdE M X.K W tc fc) (o1 o2 : CO) :
    RdT M X.K W (tTest (tChain (rCmp X.K o1) (rCmp X.K o2) ta tb tc)) fun φ st => R.bt (fa φ st) fun x st => R.bt (fb φ st) fun y st => T.bt (cmpT o1 x y st) fun k st => if k then R.bt (fc φ st) fun z st => cmpT o2 y z st else some (.ok false st) := by
  intro σ H Q φ F ρ st res hh hs e p
  show ta σ H _
  refine ha.bindT hh hs e p fun x st1 F1 ρ1 H1 v e1 g1 h1 r1 p1 => ?_
  refine hb.bindT h1 (hs.g g1) e1 p1 fun y st2 F2 ρ2 H2 w e2 g2 h2 r2 p2 => ?_
  unfold cmpT at e2
  have r1' := RL.mono g2.sub g2.pre x v r1
  cases ex : peek st2 x with
  | none => simp [ex, T.bt] at e2
  | some a =>
    cases ey : peek st2 y with
    | none => simp [ex, ey, T.bt] at e2
    | some b =>
      simp only [ex, ey] at e2
      cases ed : doCmp o1 a b with
      | none => simp [ed, T.bt] at e2
      | some c =>
        simp only [ed, Option.map_some, T.bt] at e2
        refine rd_cmpP (W := W) (σ := σ) (st := st2) h2 (peek_ok h2 r1' ex) (peek_ok h2 r2 ey) ed fun F3 ρ3 H3 z g3 h3 r3 => ?_
        simp only [RL, RP] at r3
        refine ⟨c, r3, ?_⟩
        cases c with
        | false =>
          simp only [Bool.false_eq_true, if_false, Option.some.injEq] at e2 ⊢
          subst e2
          exact ⟨false, rfl, p2 F3 ρ3 H3 g3 h3⟩
        | true =>
          simp only [if_true] at e2 ⊢
          refine hc.bindT h3 (((hs.g g1).g g2).g g3) e2 (p2.g g3) fun z' st4 F4 ρ4 H4 u e4 g4 h4 r4 p4 => ?_
          have r2' := RL.mono g4.sub g4.pre y w (RL.mono g3.sub g3.pre y w r2)
          cases ez : peek st4 y with
          | none => simp [ez] at e4
          | some b' =>
            cases ew : peek st4 z' with
            | none => simp [ez, ew] at e4
            | some d =>
              simp only [ez, ew, Option.map_eq_some_iff] at e4
              obtain ⟨k, e5, e6⟩ := e4
              subst e6
              refine rd_cmpP (W := W) (σ := σ) (st := st4) h4 (peek_ok h4 r2' ez) (peek_ok h4 r4 ew) e5 fun F5 ρ5 H5 z5 g5 h5 r5 => ?_
              simp only [RL, RP] at r5
              exact ⟨k, r5, p4 F5 ρ5 H5 g5 h5⟩
theorem rd_isnT {t : TE} {f : Slots → Store → Option ER} {neg : Bool} (h : RdE M X.K W t f) : RdT M X.K W (tTest (tIsNB neg t)) fun φ st => R.bt (f φ st) fun x st => match x with
    | .pv .non => some (.ok (!neg) st)
    | _ => some (.ok neg st) := by
  intro σ H Q φ F ρ st r hh hs e p
  show t σ H _
  refine h.bindT hh hs e p fun x st1 F1 ρ1 H1 v e1 g1 h1 r1 p1 => ⟨rfl, ?_⟩
  have hn := RL_non r1
  split at e1
  · simp only [Option.some.injEq] at e1
    subst e1
    refine ⟨_, rfl, ?_⟩
    rw [decide_eq_true (hn.mpr rfl), Bool.xor_true]
    exact p1 F1 ρ1 H1 (G.refl _ _ _) h1
  · rename_i hx
    simp only [Option.some.injEq] at e1
    subst e1
    refine ⟨_, rfl, ?_⟩
    rw [decide_eq_false (fun z => hx (hn.mp z)), Bool.xor_false]
    exact p1 F1 ρ1 H1 (G.refl _ _ _) h1
/-- one reading for all blocks -/
theorem all_PE {ι : Type} {Xs : ι → Cx} {e : Expr} {f : Slots → Store → Option ER} {K : PySem.W.Frag} {W : WX} (h : ∀ i, ∃ t, PE (Xs i) e t ∧ RdE M K W t f) : ∃ t, (∀ i, PE (Xs i) e t) ∧ RdE M K W t f := by
  refine ⟨fun σ H Q => ∀ i, Classical.choose (h i) σ H Q, fun i => ⟨fun pins s σ H Q I q => (Classical.choose_spec (h i)).1.run pins s σ H Q I (q i)⟩, fun σ H Q φ F ρ st r hh hs ev p i => (Classical.choose_spec (h i)).2 σ H Q φ F ρ st r hh hs ev p⟩
theorem all_PT {ι : Type} {Xs : ι → Cx} {e : Expr} {f : Slots → Store → Option ET} {K : PySem.W.Frag} {W : WX} (h : ∀ i, ∃ t, PT (Xs i) e t ∧ RdT M K W t f) : ∃ t, (∀ i, PT (Xs i) e t) ∧ RdT M K W t f := by
  refine ⟨fun σ H Q => ∀ i, Classical.choose (h i) σ H Q, fun i => ⟨fun pins s σ H Q I q => (Classical.choose_spec (h i)).1.run pins s σ H Q I (q i)⟩, fun σ H Q φ F ρ st r hh hs ev p i => (Classical.choose_spec (h i)).2 σ H Q φ F ρ st r hh hs ev p⟩
theorem all_PG {ι : Type} {Xs : ι → Cx} {e : Expr} {m : MG} {K : PySem.W.Frag} (h : ∀ i, ∃ t, PG (Xs i) e t ∧ RdG M K t m) : ∃ t, (∀ i, PG (Xs i) e t) ∧ RdG M K t m := by
  refine ⟨fun v σ H Q => ∀ i, Classical.choose (h i) v σ H Q, fun i => ⟨fun pins s σ H v u Q I r q => (Classical.choose_spec (h i)).1.run pins s σ H v u Q I r (q i)⟩, fun x v φ φ' σ F ρ H st Q hh hs r ev p i => (Classical.choose_spec (h i)).2 x v φ φ' σ F ρ H st Q hh hs r ev p⟩
structure Blk where
  s : Shared
  H : Hp
  A : Addr
  cl : List (Str × Addr)
  fp : List Addr
abbrev Blk.cx (b : Blk) (X : Cx) (scope : Scope) : Cx := X.blk b.s b.H scope (compEnvC scope b.cl b.A X.env) b.fp
/-- a turn of a comprehension -/
theorem turn_nil {te : TE} {elt : ME} (he : RdE M X.K W0 te (evE S elt)) : RdTurn M X.K tYes te fun φ st => evIf S [] φ st fun st => R.bs (evE S elt φ st) fun y st => some (.ok [y] st) := by
  intro φ σ F ρ H st st' ys U U0 hh hs e p
  show (if true = true then te σ H U else U0 H)
  rw [if_pos rfl]
  simp only [evIf] at e
  cases q : evE S elt φ st with
  | none => rw [q] at e; cases e
  | some r =>
    rw [q] at e
    cases r with
    | ex x st1 => simp [R.bs] at e
    | ok y st1 =>
      simp only [R.bs, Option.some.injEq, ERs.ok.injEq] at e
      obtain ⟨e1, e2⟩ := e
      subst e1 e2
      exact he σ H U φ F ρ st _ hh hs q fun F1 ρ1 H1 v g1 h1 r1 => (p F1 ρ1 H1 g1 h1).2 y v rfl r1
theorem turn_one {tt : TT} {te : TE} {elt : ME} {t : MT} (ht : RdT M X.K W0 tt (evT S t)) (he : RdE M X.K W0 te (evE S elt)) : RdTurn M X.K tt te fun φ st => evIf S [t] φ st fun st => R.bs (evE S elt φ st) fun y st => some (.ok [y] st) := by
  intro φ σ F ρ H st st' ys U U0 hh hs e p
  simp only [evIf] at e
  cases qt : evT S t φ st with
  | none => rw [qt] at e; cases e
  | some rt =>
    rw [qt] at e
    cases rt with
    | ex x st1 => simp at e
    | ok b st1 =>
      refine ht σ H _ φ F ρ st _ hh hs qt fun F1 ρ1 H1 g1 h1 => ?_
      cases b with
      | false =>
        rw [if_neg Bool.false_ne_true]
        simp only [Option.some.injEq, ERs.ok.injEq] at e
        obtain ⟨e1, e2⟩ := e
        subst e1 e2
        exact (p F1 ρ1 H1 g1 h1).1 rfl
      | true =>
        rw [if_pos rfl]
        simp only at e
        cases q : evE S elt φ st1 with
        | none => rw [q] at e; cases e
        | some r =>
          rw [q] at e
          cases r with
          | ex x st2 => simp [R.bs] at e
          | ok y st2 =>
            simp only [R.bs, Option.some.injEq, ERs.ok.injEq] at e
            obtain ⟨e1, e2⟩ := e
            subst e1 e2
            exact he σ H1 U φ F1 ρ1 st1 _ h1 (hs.g g1) q fun F2 ρ2 H2 v g2 h2 r2 => (p F2 ρ2 H2 (g1.trans g2) h2).2 y v rfl r2
/-- the tests of a clause -/
def SIf (X : Cx) (M : Nm) (S : Sem) (ifs : List MT) (is : List Expr) : Prop := (ifs = [] ∧ is = []) ∨ ∃ t e, ifs = [t] ∧ is = [e] ∧ ST X M S W0 t e
theorem rd_frz {t : TE} {f : Slots → Store → Option ER} (h : RdE M X.K W t f) : RdE M X.K W t fun φ st => R.bind (f φ st) fun x st => (frz x st).map fun p => .ok (.pv p.1) p.2 := by
  intro σ H Q φ F ρ st r hh hs e p
  refine h.bind hh hs e p fun x st1 F1 ρ1 H1 v e1 g1 h1 r1 p1 => ?_
  simp only [Option.map_eq_some_iff] at e1
  obtain ⟨q, e2, e3⟩ := e1
  subst e3
  obtain ⟨F2, g2, h2, r2⟩ := frz_ok h1 r1 (p := q.1) (st' := q.2) e2
  exact p1 F2 ρ1 H1 v g2 h2 (by simp only [RL]; exact r2)
theorem rd_callC {f n : Nat} {t : TA} {ms : List ME} (hn : ms.length = n) (h : RdA M X.K W t (evEs S ms)) : RdE M X.K W (tCallG (spOf M X.K (S.cal f) n) (fun σ cls d H => W cls d σ H) t) (evE S (.call f ms)) := by
  intro σ H Q φ F ρ st r hh hs e p
  simp only [evE] at e
  cases q : evEs S ms φ st with
  | none => rw [q] at e; cases e
  | some rs =>
    rw [q] at e
    cases rs with
    | ex x st1 =>
      have e' : r = .ex x st1 := (Option.some.inj e).symm
      subst e'
      exact h σ H _ φ F ρ st _ hh hs q p
    | ok xs st1 =>
      refine h σ H _ φ F ρ st _ hh hs q fun F1 ρ1 H1 vs g1 h1 r1 => ?_
      show spOf M X.K (S.cal f) n vs H1 Q (fun cls d H => W cls d σ H)
      exact rd_call h1 r1 (by rw [← r1.length, evEs_len q, hn]) e (p.g g1)
theorem rd_callCH {f n : Nat} {t : TA} {ms : List ME} (hn : ms.length = n) (h : RdA M X.K W t (evEs S ms)) : RdE M X.K W (tCallS (spOf M X.K (S.cal f) n) (fun σ cls d H => W cls d σ H) t) (evE S (.call f ms)) := by
  intro σ H Q φ F ρ st r hh hs e p
  simp only [evE] at e
  cases q : evEs S ms φ st with
  | none => rw [q] at e; cases e
  | some rs =>
    rw [q] at e
    cases rs with
    | ex x st1 =>
      have e' : r = .ex x st1 := (Option.some.inj e).symm
      subst e'
      exact h σ H _ φ F ρ st _ hh hs q p
    | ok xs st1 =>
      refine h σ H _ φ F ρ st _ hh hs q fun F1 ρ1 H1 vs g1 h1 r1 => ?_
      show spOf M X.K (S.cal f) n vs H1 Q (fun cls d H => W cls d σ H)
      exact rd_call h1 r1 (by rw [← r1.length, evEs_len q, hn]) e (p.g g1)
theorem rd_biC {b : BI} {t : TA} {ms : List ME} (h : RdA M X.K W t (evEs S ms)) : RdE M X.K W (tCB (rBI X.K b) t) (evE S (.bi b ms)) := by
  intro σ H Q φ F ρ st r hh hs e p
  simp only [evE] at e
  refine h.bind hh hs e p fun xs st1 F1 ρ1 H1 vs e1 g1 h1 r1 p1 => ?_
  split at e1
  · rename_i n hn
    simp only [Option.some.injEq] at e1
    subst e1
    unfold lenB at hn
    split at hn
    · rename_i x
      simp only [RLs] at r1
      obtain ⟨w, r', k1, k2, k3⟩ := r1
      subst k1 k3
      obtain ⟨a, ws, ev, hl, ho⟩ := rd_lenL h1 k2 hn
      subst ev
      refine ⟨.ref a, n, rfl, ?_, p1.tree h1 (by simp only [RP])⟩
      rcases ho with ho | ho
      · exact .inl ⟨ws, .inl (.inl ho), hl.symm⟩
      · exact .inr ⟨ws, .inl (.inl ho), hl.symm⟩
    · cases hn
  split at e1
  · rename_i ps hp
    cases qz : doBI b ps with
    | none => simp [qz, okP] at e1
    | some z =>
      simp only [qz, okP, Option.some.injEq] at e1
      subst e1
      exact rd_bi h1 (peeks_ok h1 r1 hp) qz p1
  · cases e1
end
section
variable {M : Nm} {S : Sem} {k : Nat}
mutual
theorem snd : ∀ (m : ME) (g : SC) (X : Cx) (W : WX) (e : Expr), Cok X g M S W k → chkE g m e = true → SE X M S W m e
  | .var i, g, X, W, e, C, h => by
    cases e <;> simp only [chkE, Bool.and_eq_true, decide_eq_true_eq, Bool.false_eq_true] at h
    obtain ⟨h1, h2, h3⟩ := C.vis h.2
    exact ⟨_, pe_var (i := i) (by rw [C.N]; exact h.1) h1 h2 h3, rd_var i⟩
  | .lit p, g, X, W, e, C, h => by
    cases e <;> simp only [chkE, Bool.false_eq_true] at h
    obtain ⟨v, h1, h2⟩ := lit_ok (X := X) h
    exact ⟨_, h1, rd_const h2 fun φ st => .inl (by simp only [evE])⟩
  | .glb i, g, X, W, e, C, h => by
    cases e <;> simp only [chkE, Bool.and_eq_true, decide_eq_true_eq, Bool.false_eq_true] at h
    obtain ⟨h1, h2⟩ := C.gl h.2
    cases q : S.glb i with
    | none =>
      refine ⟨_, ⟨fun _ _ _ _ _ _ z => z.elim⟩, (show RdE M X.K W (fun _ _ _ => False) _ from fun σ H Q φ F ρ st r hh hs e p => ?_)⟩
      simp only [evE, q, okP] at e
      cases e
    | some p =>
      obtain ⟨u, v, h3, h4, _, h5⟩ := C.glb i _ p h.1 q
      exact ⟨_, pe_glob h1 h3 h4 h2, rd_const h5 fun φ st => .inl (by simp only [evE, q, okP])⟩
  | .tup es, g, X, W, e, C, h => by
    cases e <;> simp only [chkE, Bool.false_eq_true] at h
    obtain ⟨t, h1, h2⟩ := (snds es g X W _ C h).pa
    exact ⟨_, pe_tup h1, rd_tup h2⟩
  | .lst live es, g, X, W, e, C, h => by
    cases e <;> simp only [chkE, Bool.false_eq_true] at h
    obtain ⟨t, h1, h2⟩ := (snds es g X W _ C h).pa
    exact ⟨_, pe_lst h1, rd_lst h2⟩
  | .dnew t, g, X, W, e, C, h => by
    unfold chkE at h
    split at h
    · cases t with
      | true => exact ⟨_, pe_dnewT, rd_dnew true⟩
      | false => exact ⟨_, pe_dnewK, rd_dnew false⟩
    · cases h
  | .bin op a b, g, X, W, e, C, h => by
    cases e <;> simp only [chkE, Bool.and_eq_true, decide_eq_true_eq, Bool.false_eq_true] at h
    obtain ⟨⟨h1, h2⟩, h3⟩ := h
    subst h1
    obtain ⟨ta, a1, a2⟩ := snd a g X W _ C h2
    obtain ⟨tb, b1, b2⟩ := snd b g X W _ C h3
    exact ⟨_, pe_op (op_bin op) a1 b1, rd_op a2 b2 (rd_bin op)⟩
  | .cmp op a b, g, X, W, e, C, h => by
    unfold chkE at h
    split at h
    · simp only [Bool.and_eq_true, decide_eq_true_eq, Bool.not_eq_true'] at h
      obtain ⟨⟨⟨h1, hs⟩, h2⟩, h3⟩ := h
      subst h1
      obtain ⟨ta, a1, a2⟩ := snd a g X W _ C h2
      obtain ⟨tb, b1, b2⟩ := snd b g X W _ C h3
      exact ⟨_, pe_cmpR (op_cmp C.un op) a1 b1 (noSet hs _), rd_op a2 b2 (rd_cmp op)⟩
    · cases h
  | .boolop c es, g, X, W, e, C, h => by
    cases e <;> simp only [chkE, Bool.and_eq_true, decide_eq_true_eq, Bool.not_eq_true', Bool.false_eq_true] at h
    obtain ⟨⟨h1, h2⟩, h3⟩ := h
    subst h1
    obtain ⟨t, h4, h5⟩ := boolop_ok c _ (by intro z; subst z; simp at h2) (snds es g X W _ C h3)
    exact ⟨t, h4, fun σ H Q φ F ρ st r hh hs e p => h5 σ H Q φ F ρ st r hh hs (by simpa only [evE] using e) p⟩
  | .not a, g, X, W, e, C, h => by
    unfold chkE at h
    split at h
    · obtain ⟨t, h1, h2⟩ := snd a g X W _ C h
      exact ⟨_, pe_notT h1, rd_not h2⟩
    · cases h
  | .neg a, g, X, W, e, C, h => by
    unfold chkE at h
    split at h
    · obtain ⟨t, h1, h2⟩ := snd a g X W _ C h
      exact ⟨_, pe_un un_neg h1, rd_neg h2⟩
    · cases h
  | .ite c a b, g, X, W, e, C, h => by
    cases e <;> simp only [chkE, Bool.and_eq_true, Bool.false_eq_true] at h
    obtain ⟨tc, c1, c2⟩ := sndT c g X W _ C h.1.1
    obtain ⟨ta, a1, a2⟩ := snd a g X W _ C h.1.2
    obtain ⟨tb, b1, b2⟩ := snd b g X W _ C h.2
    exact ⟨_, pe_ifExp c1 a1 b1, rd_ite c2 a2 b2⟩
  | .idx a i, g, X, W, e, C, h => by
    cases e <;> simp only [chkE, Bool.and_eq_true, Bool.not_eq_true', Bool.false_eq_true] at h
    obtain ⟨ta, a1, a2⟩ := snd a g X W _ C h.1.2
    obtain ⟨tb, b1, b2⟩ := snd i g X W _ C h.2
    exact ⟨_, pe_ix (ix_Z C.un) a1 b1 (plainIx h.1.1), rd_op a2 b2 rd_getI⟩
  | .slc a l lo hb hi, g, X, W, e, C, h => by
    unfold chkE at h
    split at h
    · rename_i x le ue p1 p2
      simp only [Bool.and_eq_true] at h
      obtain ⟨⟨h1, h2⟩, h3⟩ := h
      obtain ⟨ta, a1, a2⟩ := snd a g X W _ C h1
      have lp : ∃ t, PO X le t ∧ RdO M X.K W t l (fun φ st => if l then evE S lo φ st else some (.ok (.pv .non) st)) := by
        cases le with
        | none =>
          simp only [Bool.not_eq_true'] at h2
          subst h2
          exact ⟨_, po_none, rdo_none⟩
        | some le =>
          simp only [Bool.and_eq_true] at h2
          obtain ⟨h4, h5⟩ := h2
          subst h4
          obtain ⟨t, b1, b2⟩ := snd lo g X W _ C h5
          exact ⟨_, po_some b1, rdo_some b2⟩
      have up : ∃ t, PO X ue t ∧ RdO M X.K W t hb (fun φ st => if hb then evE S hi φ st else some (.ok (.pv .non) st)) := by
        cases ue with
        | none =>
          simp only [Bool.not_eq_true'] at h3
          subst h3
          exact ⟨_, po_none, rdo_none⟩
        | some ue =>
          simp only [Bool.and_eq_true] at h3
          obtain ⟨h4, h5⟩ := h3
          subst h4
          obtain ⟨t, b1, b2⟩ := snd hi g X W _ C h5
          exact ⟨_, po_some b1, rdo_some b2⟩
      obtain ⟨tl, l1, l2⟩ := lp
      obtain ⟨tu, u1, u2⟩ := up
      exact ⟨_, pe_slice sl_W a1 l1 u1, rd_slc a2 l2 u2⟩
    · cases h
  | .slcL a l lo hb hi, g, X, W, e, C, h => by
    unfold chkE at h
    split at h
    · rename_i x le ue p1 p2
      simp only [Bool.and_eq_true] at h
      obtain ⟨⟨h1, h2⟩, h3⟩ := h
      obtain ⟨ta, a1, a2⟩ := snd a g X W _ C h1
      have lp : ∃ t, PO X le t ∧ RdO M X.K W t l (fun φ st => if l then evE S lo φ st else some (.ok (.pv .non) st)) := by
        cases le with
        | none =>
          simp only [Bool.not_eq_true'] at h2
          subst h2
          exact ⟨_, po_none, rdo_none⟩
        | some le =>
          simp only [Bool.and_eq_true] at h2
          obtain ⟨h4, h5⟩ := h2
          subst h4
          obtain ⟨t, b1, b2⟩ := snd lo g X W _ C h5
          exact ⟨_, po_some b1, rdo_some b2⟩
      have up : ∃ t, PO X ue t ∧ RdO M X.K W t hb (fun φ st => if hb then evE S hi φ st else some (.ok (.pv .non) st)) := by
        cases ue with
        | none =>
          simp only [Bool.not_eq_true'] at h3
          subst h3
          exact ⟨_, po_none, rdo_none⟩
        | some ue =>
          simp only [Bool.and_eq_true] at h3
          obtain ⟨h4, h5⟩ := h3
          subst h4
          obtain ⟨t, b1, b2⟩ := snd hi g X W _ C h5
          exact ⟨_, po_some b1, rdo_some b2⟩
      obtain ⟨tl, l1, l2⟩ := lp
      obtain ⟨tu, u1, u2⟩ := up
      exact ⟨_, pe_slice sl_W a1 l1 u1, rd_slcL a2 l2 u2⟩
    · cases h
  | .tabI t i, g, X, W, e, C, h => by
    unfold chkE at h
    split at h
    · simp only [Bool.and_eq_true, decide_eq_true_eq, Bool.not_eq_true'] at h
      obtain ⟨⟨⟨h1, h2⟩, h3⟩, h4⟩ := h
      obtain ⟨g1, g2⟩ := C.gl h2
      obtain ⟨tb, b1, b2⟩ := snd i g X W _ C h4
      obtain ⟨ps, a, hS, hm, T, ty, ok⟩ := C.tab t _ h1
      exact ⟨_, pe_ix (ix_Z C.un) (pe_glob (v := .ref a) g1 hm rfl g2) b1 (plainIx h3), fun σ H Q φ F ρ st r hh hs e p => rd_tabI T ok b2 σ H Q φ F ρ st r hh hs (by simp only [evE, hS] at e; exact e) p⟩
    · cases h
  | .tabL t, g, X, W, e, C, h => by
    unfold chkE at h
    split at h
    · simp only [Bool.and_eq_true, decide_eq_true_eq] at h
      obtain ⟨⟨⟨h1, h2⟩, h3⟩, h4⟩ := h
      subst h1
      obtain ⟨f1, f2⟩ := C.gl h2
      obtain ⟨g1, g2⟩ := C.gl h4
      obtain ⟨ps, a, hS, hm, T, ty, ok⟩ := C.tab t _ h3
      refine ⟨_, pe_bi (b := .len) C.un (fun hb => by cases hb) (fun hb => by cases hb) f1 (C.bi .len) (pa_cons (pe_glob (v := .ref a) g1 hm rfl g2) pa_nil) rfl rfl, fun σ H Q φ F ρ st r hh hs e p => ?_⟩
      simp only [evE, hS, Option.map_some, Option.some.injEq] at e
      subst e
      exact ⟨.ref a, ps.length, rfl, .inr ⟨_, T H, by simp⟩, p.tree hh (by simp only [RP])⟩
    · cases h
  | .tabX t es, g, X, W, e, C, h => by
    unfold chkE at h
    split at h
    · simp only [Bool.and_eq_true, decide_eq_true_eq] at h
      obtain ⟨⟨⟨⟨⟨h1, h2⟩, h3⟩, h4⟩, h5⟩, h6⟩ := h
      subst h1
      obtain ⟨g1, g2⟩ := C.gl h4
      obtain ⟨ps, a, hS, hm, T, ty, ok⟩ := C.tab t _ h3
      have hs := snds es g X W _ C h6
      obtain ⟨ta, a1, a2⟩ := hs.pa
      have st := hs.star
      have st' := st
      have len := hs.len
      simp only [List.all_cons, Bool.and_eq_true, Bool.not_eq_true'] at st
      exact ⟨_, pe_bm (r := rTI X.K) PySem.F.plainAttrs_tuple PySem.F.slot_tuple_index PySem.F.type_tuple_index mt_tup_index (pe_glob (v := .ref a) g1 hm rfl g2) a1 rfl (few_ok st' (by rw [← len]; exact h5)) h2 (star_each st.1) (star_plain st.2), fun σ H Q φ F ρ st r hh hs e p => rd_tabX T ty a2 σ H Q φ F ρ st r hh hs (by simp only [evE, hS] at e; exact e) p⟩
    · cases h
  | .dsel kvs i, g, X, W, e, C, h => by
    unfold chkE at h
    split at h
    · simp only [Bool.and_eq_true, decide_eq_true_eq, Bool.not_eq_true'] at h
      obtain ⟨⟨⟨⟨⟨h1, h2⟩, h3⟩, h4⟩, h5⟩, h6⟩ := h
      exact se_dsel C.un h1 h2 h3 h4 h5 (snd i g X W _ C h6)
    · cases h
  | .tabD t i, g, X, W, e, C, h => by
    unfold chkE at h
    split at h
    · simp only [Bool.and_eq_true, decide_eq_true_eq, Bool.not_eq_true'] at h
      obtain ⟨⟨⟨h1, h2⟩, h3⟩, h4⟩ := h
      obtain ⟨g1, g2⟩ := C.gl h2
      obtain ⟨kvs, a, hS, hm, D⟩ := C.dtab t _ h1
      exact se_tabD hS hm D g1 g2 h3 (snd i g X W _ C h4)
    · cases h
  | .dcopy a, g, X, W, e, C, h => by
    unfold chkE at h
    split at h
    · simp only [Bool.and_eq_true, decide_eq_true_eq, Bool.not_eq_true'] at h
      obtain ⟨⟨⟨h1, h2⟩, h3⟩, h4⟩ := h
      subst h1
      obtain ⟨g1, g2⟩ := C.gl h2
      exact se_dcopy g1 C.dct h3 (snd a g X W _ C h4)
    · cases h
  | .dpairs a, g, X, W, e, C, h => by
    unfold chkE at h
    split at h
    · simp only [Bool.and_eq_true, decide_eq_true_eq, Bool.not_eq_true'] at h
      obtain ⟨⟨⟨⟨h1, h2⟩, h3⟩, h5⟩, h4⟩ := h
      subst h1
      obtain ⟨g1, g2⟩ := C.gl h2
      exact se_dpairs (C.calm h5) g1 C.dct h3 (snd a g X W _ C h4)
    · cases h
  | .lcopy a, g, X, W, e, C, h => by
    unfold chkE at h
    split at h
    · simp only [Bool.and_eq_true, decide_eq_true_eq, Bool.not_eq_true'] at h
      obtain ⟨⟨⟨h1, h2⟩, h3⟩, h4⟩ := h
      subst h1
      obtain ⟨g1, g2⟩ := C.gl h2
      exact se_lcopy C.un g1 (C.bi .list) h3 (snd a g X W _ C h4)
    · cases h
  | .cat a b, g, X, W, e, C, h => by
    cases e <;> simp only [chkE, Bool.and_eq_true, decide_eq_true_eq, Bool.false_eq_true] at h
    obtain ⟨⟨h1, h2⟩, h3⟩ := h
    subst h1
    exact se_cat (snd a g X W _ C h2) (snd b g X W _ C h3)
  | .rev a, g, X, W, e, C, h => by
    unfold chkE at h
    split at h
    · obtain ⟨ta, a1, a2⟩ := snd a g X W _ C h
      exact ⟨_, pe_or2 (pe_revS a1) (pe_or2 (pe_revT a1) (pe_revL a1)), rd_rev a2⟩
    · cases h
  | .isn neg a, g, X, W, e, C, h => by
    unfold chkE at h
    split at h
    · simp only [Bool.and_eq_true, decide_eq_true_eq] at h
      obtain ⟨h1, h2⟩ := h
      subst h1
      obtain ⟨t, a1, a2⟩ := snd a g X W _ C h2
      exact ⟨_, pe_cmpR (op_isNB neg) a1 pe_non (noSet rfl _), rd_isn a2⟩
    · cases h
  | .isi ty a, g, X, W, e, C, h => by
    unfold chkE at h
    split at h
    · simp only [Bool.and_eq_true, decide_eq_true_eq, Bool.not_eq_true'] at h
      obtain ⟨⟨⟨⟨⟨h1, h2⟩, h3⟩, h4⟩, hst⟩, h5⟩ := h
      subst h1 h2
      obtain ⟨g1, g2⟩ := C.gl h3
      obtain ⟨g3, g4⟩ := C.gl h4
      obtain ⟨t, a1, a2⟩ := snd a g X W _ C h5
      refine ⟨_, pe_callB call_isi g1 C.bis (by decide +kernel) (pa_cons a1 (pa_cons (pe_bltn (v := .ty (tyS ty)) g3 (C.bt ty) (ty_boot ty) rfl (by cases ty <;> decide) g4) pa_nil) (star_each hst)) (by decide) (by decide) (star_each hst) (by rfl), rd_isi a2⟩
    · cases h
  | .bi b es, g, X, W, e, C, h => by
    unfold chkE at h
    split at h
    · rename_i f fp xs pos
      simp only [Bool.and_eq_true, decide_eq_true_eq, Bool.not_eq_true'] at h
      obtain ⟨⟨⟨⟨h1, h2⟩, h3⟩, h4⟩, h5⟩ := h
      subst h1
      obtain ⟨g1, g2⟩ := C.gl h2
      have hs := snds es g X W _ C h4
      obtain ⟨t, a1, a2⟩ := hs.pa
      have st := hs.star
      cases xs with
      | nil =>
        have := hs.len
        cases es <;> simp at this h3
      | cons y ys =>
        simp only [List.all_cons, Bool.and_eq_true, Bool.not_eq_true'] at st
        exact ⟨_, pe_bi C.un (fun hb => C.calm (by simpa [hb] using h5)) (fun hb => by
          cases hh : g.hot with
          | false => exact C.gd hh
          | true => exact C.gdx (by simp [hb, hh] at h5; exact h5.2)) g1 (C.bi b) a1 (star_each st.1) (star_plain st.2), rd_biC a2⟩
    · cases h
  | .bm m r es, g, X, W, e, C, h => by
    unfold chkE at h
    split at h
    · rename_i o a apos xs cpos
      simp only [Bool.and_eq_true, decide_eq_true_eq, Bool.not_eq_true'] at h
      obtain ⟨⟨⟨⟨⟨h1, h2⟩, hl⟩, h4⟩, h5⟩, h6⟩ := h
      subst h1
      exact se_bm C.un hl h4 h5 (snd r g X W _ C h2) (snds es g X W _ C h6)
    · cases h
  | .call f es, g, X, W, e, C, h => by
    unfold chkE at h
    split at h
    · rename_i x p xs pos
      simp only [Bool.and_eq_true, decide_eq_true_eq, Bool.not_eq_true'] at h
      obtain ⟨⟨⟨⟨h1, h2⟩, h3⟩, h4⟩, h5⟩ := h
      obtain ⟨g1, g2⟩ := C.gl h2
      have hs := snds es g X W _ C h4
      obtain ⟨t, a1, a2⟩ := hs.pa
      have st := hs.star
      have len := hs.len
      cases xs with
      | nil => cases es <;> simp at len h3
      | cons y ys =>
        simp only [List.all_cons, Bool.and_eq_true, Bool.not_eq_true'] at st
        cases hh : g.hot with
        | false =>
          obtain ⟨a, fd, ps, F, hm, hk, hb⟩ := C.calls hh f _ _ h1
          exact ⟨_, pe_callG F (C.hr hh) (C.gd hh) g1 hm hk hb (fun σ => L2N.passAt C.takes σ) a1 g2 (star_each st.1) (star_plain st.2), rd_callC rfl a2⟩
        | true =>
          obtain ⟨a, fd, ps, F, hm, hk, hb⟩ := C.callsH f _ _ h1 (by simpa [hh] using h5)
          exact ⟨_, L2H.pe_callH F (C.hrH hh) (C.hotc hh) g1 hm hk hb (fun σ => L2N.passAt C.takes σ) a1 g2 (star_each st.1) (star_plain st.2), rd_callCH rfl a2⟩
    · cases h
  | .lc live elt tg ik src ifs own, g, X, W, e, C, h => by
    unfold chkE at h
    split at h
    · rename_i elx gs scope pos
      split at h
      · rename_i t it is ow hc ho
        split at h
        · rename_i xs hsrc
          simp only [Bool.and_eq_true, Bool.not_eq_true'] at h
          obtain ⟨⟨⟨⟨⟨⟨h1, hown⟩, h2⟩, h3⟩, h4⟩, h5⟩, hhot⟩ := h
          have B := blkOk_by h1
          have hgs : gs = [⟨t, it, is, 0⟩] := by
            unfold comps at hc
            split at hc
            · split at hc
              · rename_i ha
                simp only [Option.some.injEq, Prod.mk.injEq] at hc
                obtain ⟨e1, e2, e3⟩ := hc
                subst e1 e2 e3 ha; rfl
              · cases hc
            · cases hc
          subst hgs
          have how : ∀ (own : List Nat) (ow : List (Str × Nat)), ownOf g.N own = some ow → ow.map (·.2) = own := by
            intro own
            induction own with
            | nil => intro ow e; simp only [ownOf, Option.some.injEq] at e; subst e; rfl
            | cons i r ih =>
              intro ow e
              unfold ownOf at e
              split at e
              · simp only [Option.map_eq_some_iff] at e
                obtain ⟨ow', e1, e2⟩ := e
                subst e2
                simp [ih ow' e1]
              · cases e
          have hown2 := how own ow ho
          obtain ⟨wi, i1, i2, i3⟩ := iter_ok C hsrc (snds src g X W _ C h3) (tg := t)
          have B' : BlkOk X.N X.env.scope scope ow := by rw [C.N, C.sc]; exact B
          have sub : ∀ i ∈ slotsG tg, i ∈ own := fun i hi => by
            have := List.all_eq_true.mp hown i hi
            simpa using this
          obtain ⟨tg', hg1, hg2⟩ := all_PG (Xs := fun b : Blk => b.cx X scope) (K := X.K) (M := M) fun b => tgt (C.blk hhot scope b.s b.H b.A b.cl b.fp) tg t h2
          obtain ⟨te, he1, he2⟩ := all_PE (Xs := fun b : Blk => b.cx X scope) (K := X.K) (W := W0) (M := M) fun b => snd elt (g.blk scope) (b.cx X scope) W0 elx (C.blk hhot scope b.s b.H b.A b.cl b.fp) h5
          have tests : ∃ tt, (∀ b : Blk, PTs (b.cx X scope) is tt) ∧ RdTurn M X.K tt te fun φ st => evIf S ifs φ st fun st => R.bs (evE S elt φ st) fun y st => some (.ok [y] st) := by
            match ifs, h4 with
            | [], h4 =>
              simp only [chkIfs, List.isEmpty_iff] at h4
              subst h4
              exact ⟨tYes, fun b => pts_nil, turn_nil he2⟩
            | c :: cs, h4 =>
              match cs, is, h4 with
              | [], [e'], h4 =>
                simp only [chkIfs] at h4
                obtain ⟨tt, t1, t2⟩ := all_PT (Xs := fun b : Blk => b.cx X scope) (K := X.K) (W := W0) (M := M) fun b => sndT c (g.blk scope) (b.cx X scope) W0 e' (C.blk hhot scope b.s b.H b.A b.cl b.fp) h4
                exact ⟨tt, fun b => pts_one (t1 b), turn_one t2 he2⟩
              | [], [], h4 => simp [chkIfs] at h4
              | [], _ :: _ :: _, h4 => simp [chkIfs] at h4
              | _ :: _, _, h4 => simp [chkIfs] at h4
          obtain ⟨tt, t1, t2⟩ := tests
          refine ⟨_, pe_lc (C.calm hhot) C.nd i1 B' (fun s H A cl fp => hg1 ⟨s, H, A, cl, fp⟩) (fun s H A cl fp => t1 ⟨s, H, A, cl, fp⟩) (fun s H A cl fp => he1 ⟨s, H, A, cl, fp⟩) (fun x => i3 X.env x), ?_⟩
          rw [hown2]
          exact rd_lc i2 hg2 sub t2
        · cases h
      · cases h
    · cases h
  | .lcW live elt tg src ifs own, g, X, W, e, C, h => by
    unfold chkE at h
    split at h
    · rename_i elx gs scope pos
      split at h
      · rename_i t it is ow hc ho
        simp only [Bool.and_eq_true, Bool.not_eq_true'] at h
        obtain ⟨⟨⟨⟨⟨⟨⟨h1, hown⟩, h2⟩, h3⟩, h4⟩, h5⟩, hset⟩, hhot⟩ := h
        have B := blkOk_by h1
        have hgs := comps_eq hc
        subst hgs
        have hown2 := own_map own ow ho
        obtain ⟨tl, i1, i2⟩ := snd src g X W _ C h3
        have B' : BlkOk X.N X.env.scope scope ow := by rw [C.N, C.sc]; exact B
        have sub : ∀ i ∈ slotsG tg, i ∈ own := fun i hi => by
          have := List.all_eq_true.mp hown i hi
          simpa using this
        obtain ⟨tg', hg1, hg2⟩ := all_PG (Xs := fun b : Blk => b.cx X scope) (K := X.K) (M := M) fun b => tgt (C.blk hhot scope b.s b.H b.A b.cl b.fp) tg t h2
        obtain ⟨te, he1, he2⟩ := all_PE (Xs := fun b : Blk => b.cx X scope) (K := X.K) (W := W0) (M := M) fun b => snd elt (g.blk scope) (b.cx X scope) W0 elx (C.blk hhot scope b.s b.H b.A b.cl b.fp) h5
        have tests : ∃ tt, (∀ b : Blk, PTs (b.cx X scope) is tt) ∧ RdTurn M X.K tt te fun φ st => evIf S ifs φ st fun st => R.bs (evE S elt φ st) fun y st => some (.ok [y] st) := by
          match ifs, h4 with
          | [], h4 =>
            simp only [chkIfs, List.isEmpty_iff] at h4
            subst h4
            exact ⟨tYes, fun b => pts_nil, turn_nil he2⟩
          | c :: cs, h4 =>
            match cs, is, h4 with
            | [], [e'], h4 =>
              simp only [chkIfs] at h4
              obtain ⟨tt, t1, t2⟩ := all_PT (Xs := fun b : Blk => b.cx X scope) (K := X.K) (W := W0) (M := M) fun b => sndT c (g.blk scope) (b.cx X scope) W0 e' (C.blk hhot scope b.s b.H b.A b.cl b.fp) h4
              exact ⟨tt, fun b => pts_one (t1 b), turn_one t2 he2⟩
            | [], [], h4 => simp [chkIfs] at h4
            | [], _ :: _ :: _, h4 => simp [chkIfs] at h4
            | _ :: _, _, h4 => simp [chkIfs] at h4
        obtain ⟨tt, t1, t2⟩ := tests
        refine ⟨_, pe_lc (C.calm hhot) C.nd (pi_list i1) B' (fun s H A cl fp => hg1 ⟨s, H, A, cl, fp⟩) (fun s H A cl fp => t1 ⟨s, H, A, cl, fp⟩) (fun s H A cl fp => he1 ⟨s, H, A, cl, fp⟩) (fun x => noFold hset X.env x), ?_⟩
        rw [hown2]
        exact rd_lcW i2 hg2 sub t2
      · cases h
    · cases h
  | .frz a, g, X, W, e, C, h => by
    simp only [chkE] at h
    obtain ⟨t, h1, h2⟩ := snd a g X W _ C h
    exact ⟨t, h1, rd_frz h2⟩
  | .fld c a f, g, X, W, e, C, h => by
    unfold chkE at h
    split at h
    · rename_i x n pos
      simp only [Bool.and_eq_true, decide_eq_true_eq] at h
      obtain ⟨⟨⟨h1, h2⟩, h3⟩, h4⟩ := h
      exact se_fld C h1 h2 h3 (snd a g X W _ C h4)
    · cases h
  | .mcall c f a es, g, X, W, e, C, h => by
    unfold chkE at h
    split at h
    · rename_i o n apos xs cpos
      simp only [Bool.and_eq_true, decide_eq_true_eq, Bool.not_eq_true'] at h
      obtain ⟨⟨⟨⟨⟨⟨h1, h2⟩, h3⟩, h4⟩, h5⟩, h6⟩, h7⟩ := h
      exact se_mcall C h1 h2 h3 h4 h5 (snd a g X W _ C h6) (snds es g X W _ C h7)
    · cases h
  | .new c f es, g, X, W, e, C, h => by
    unfold chkE at h
    split at h
    · rename_i x p xs pos
      simp only [Bool.and_eq_true, decide_eq_true_eq, Bool.not_eq_true'] at h
      obtain ⟨⟨⟨h1, h2⟩, h3⟩, h4⟩ := h
      exact se_new C h1 h2 h3 (snds es g X W _ C h4)
    · cases h
  | .xfld i f, g, X, W, e, C, h => by
    unfold chkE at h
    split at h
    · simp only [Bool.and_eq_true, decide_eq_true_eq] at h
      obtain ⟨⟨⟨h1, h2⟩, h3⟩, h4⟩ := h
      exact se_xfld C h1 h2 h3 h4
    · cases h
  | .xisi i c, g, X, W, e, C, h => by
    unfold chkE at h
    split at h
    · simp only [Bool.and_eq_true, decide_eq_true_eq, Option.map_eq_some_iff] at h
      obtain ⟨⟨⟨⟨⟨⟨h1, h2⟩, h3⟩, h4⟩, h5⟩, h6⟩, ei, h7, h8⟩ := h
      subst h1
      exact se_xisi C h3 h4 h5 h2 h6 h7 h8
    · cases h
theorem snds : ∀ (ms : List ME) (g : SC) (X : Cx) (W : WX) (es : List Expr), Cok X g M S W k → chkEs g ms es = true → SEs X M S W ms es
  | [], g, X, W, es, C, h => by
    simp only [chkEs, List.isEmpty_iff] at h
    exact h
  | m :: ms, g, X, W, [], C, h => by simp [chkEs] at h
  | m :: ms, g, X, W, e :: es, C, h => by
    simp only [chkEs, Bool.and_eq_true, Bool.not_eq_true'] at h
    exact ⟨e, es, rfl, h.1.1, snd m g X W e C h.1.2, snds ms g X W es C h.2⟩
theorem sndT : ∀ (m : MT) (g : SC) (X : Cx) (W : WX) (e : Expr), Cok X g M S W k → chkT g m e = true → ST X M S W m e
  | .val m, g, X, W, e, C, h => by
    simp only [chkT, Bool.and_eq_true] at h
    obtain ⟨hp, h⟩ := h
    obtain ⟨t, h1, h2⟩ := snd m g X W _ C h
    exact ⟨_, pt_truth h1 (plain_true hp), fun σ H Q φ F ρ st r hh hs e p => rd_tru1 h2 σ H Q φ F ρ st r hh hs (by simp only [evT] at e; exact e) p⟩
  | .cmp op a b, g, X, W, e, C, h => by
    unfold chkT at h
    split at h
    · simp only [Bool.and_eq_true, decide_eq_true_eq, Bool.not_eq_true'] at h
      obtain ⟨⟨⟨h1, hs⟩, h2⟩, h3⟩ := h
      subst h1
      obtain ⟨ta, a1, a2⟩ := snd a g X W _ C h2
      obtain ⟨tb, b1, b2⟩ := snd b g X W _ C h3
      exact ⟨_, pt_cmpR (op_cmp C.un op) a1 b1 (noSet hs _), fun σ H Q φ F ρ st r hh hs e p => rd_cmpT a2 b2 op σ H Q φ F ρ st r hh hs (by simp only [evT] at e; exact e) p⟩
    · cases h
  | .chain o1 o2 a b c, g, X, W, e, C, h => by
    unfold chkT at h
    split at h
    · simp only [Bool.and_eq_true, decide_eq_true_eq, Bool.not_eq_true'] at h
      obtain ⟨⟨⟨⟨⟨⟨h1, h2⟩, h3⟩, h4⟩, h5⟩, h6⟩, h7⟩ := h
      subst h1 h2
      obtain ⟨ta, a1, a2⟩ := snd a g X W _ C h5
      obtain ⟨tb, b1, b2⟩ := snd b g X W _ C h6
      obtain ⟨tc, c1, c2⟩ := snd c g X W _ C h7
      exact ⟨_, pt_chain (op_cmp C.un o1) (op_cmp C.un o2) a1 b1 c1 (show lastMarks _ _ = false from noSet h4 _), fun σ H Q φ F ρ st r hh hs e p => rd_chain a2 b2 c2 o1 o2 σ H Q φ F ρ st r hh hs (by simp only [evT] at e; exact e) p⟩
    · cases h
  | .isn neg a, g, X, W, e, C, h => by
    unfold chkT at h
    split at h
    · simp only [Bool.and_eq_true, decide_eq_true_eq] at h
      obtain ⟨h1, h2⟩ := h
      subst h1
      obtain ⟨ta, a1, a2⟩ := snd a g X W _ C h2
      exact ⟨_, pt_cmpR (op_isNB neg) a1 pe_non (noSet rfl _), fun σ H Q φ F ρ st r hh hs e p => rd_isnT a2 σ H Q φ F ρ st r hh hs (by simp only [evT] at e; exact e) p⟩
    · cases h
  | .boolop c ts, g, X, W, e, C, h => by
    cases e <;> simp only [chkT, Bool.and_eq_true, decide_eq_true_eq, Bool.not_eq_true', Bool.false_eq_true] at h
    obtain ⟨⟨h1, h2⟩, h3⟩ := h
    subst h1
    obtain ⟨t, h4, h5⟩ := boolopT_ok c _ (by intro z; subst z; simp at h2) (sndTs ts g X W _ C h3)
    exact ⟨t, h4.pt, fun σ H Q φ F ρ st r hh hs e p => h5 σ H Q φ F ρ st r hh hs (by simpa only [evT] using e) p⟩
  | .not t, g, X, W, e, C, h => by
    unfold chkT at h
    split at h
    · obtain ⟨t', h1, h2⟩ := sndT t g X W _ C h
      exact ⟨_, pt_not h1, fun σ H Q φ F ρ st r hh hs e p => rd_notT h2 σ H Q φ F ρ st r hh hs (by simpa only [evT] using e) p⟩
    · cases h
theorem sndTs : ∀ (ms : List MT) (g : SC) (X : Cx) (W : WX) (es : List Expr), Cok X g M S W k → chkTs g ms es = true → STs X M S W ms es
  | [], g, X, W, es, C, h => by
    simp only [chkTs, List.isEmpty_iff] at h
    exact h
  | m :: ms, g, X, W, [], C, h => by simp [chkTs] at h
  | m :: ms, g, X, W, e :: es, C, h => by
    simp only [chkTs, Bool.and_eq_true] at h
    exact ⟨e, es, rfl, sndT m g X W e C h.1, sndTs ms g X W es C h.2⟩
end
end
end Z
end

section
/-! ZQ: statements. -/
namespace Z
open PySem PySem.Spec PyProof.Rows L2
/-! ### the look -/
def bkd (g : SC) : ScopeKind := if g.sc.kind.isAnnotationScope then .function else g.sc.kind
/-- does `name = [..]` store within the comprehension -/
def swC (g : SC) (v : Expr) (t : Str) (tp : Pos) : Bool := match v with
  | .ListComp _ _ s _ | .SetComp _ _ s _ | .DictComp _ _ _ s _ => bkd g == .function && g.sc.names.lookup t == some .local && tp.line == v.pos.line && !(s.names.any fun (n, k) => n == t && (k == .local || k == .cell))
  | _ => false
def swNames (g : SC) (ts : List Expr) : List Str := ts.filterMap fun
    | .Name id pos => if g.sc.names.lookup id == some .local && pos.line == (ts.head?.map (·.pos.line)).getD 0 then some id else none
    | _ => none
def swp (g : SC) (ts vs : List Expr) : Option (Option (List Str)) :=
  if !(ts.length == 2 || ts.length == 3) || vs.length != ts.length || bkd g != .function then some none else
  if vs.any isStar then some none else
  if (swNames g ts).length != ts.length || (swNames g ts).eraseDups.length != (swNames g ts).length then some none else
  if vs.all (foldedForSure 8) then some none else
  if vs.all (constantsAlone 8) then none else some (some (swNames g ts))
theorem swp_ok {g : SC} {ts vs : List Expr} {env : Env} {k k' : Nat} {p p' : Pos} {r : Option (List Str)} (hs : env.scope = g.sc) (h : swp g ts vs = some r) : swappedStores [.Tuple ts k p] (.Tuple vs k' p') env = pure r := by
  have hb : env.blockKind = bkd g := by unfold Env.blockKind bkd; rw [hs]
  have hk : ∀ x, env.kindOf x = g.sc.names.lookup x := fun x => by unfold Env.kindOf; rw [hs]
  have hv : isStar = (fun e : Expr => match e with | .Starred .. => true | _ => false) := by funext e; cases e <;> rfl
  unfold swappedStores
  unfold swp at h
  rw [hv] at h
  simp only [pure_bind, hb, hk]
  by_cases h1 : (!(ts.length == 2 || ts.length == 3) || vs.length != ts.length || bkd g != .function) = true
  · rw [if_pos h1] at h
    refine (if_pos h1).trans ?_
    cases h; rfl
  rw [if_neg h1] at h
  refine (if_neg h1).trans ?_
  split at h
  · rename_i h2
    refine (if_pos h2).trans ?_
    cases h; rfl
  rename_i h2
  refine (if_neg h2).trans ?_
  by_cases h3 : ((swNames g ts).length != ts.length || (swNames g ts).eraseDups.length != (swNames g ts).length) = true
  · rw [if_pos h3] at h
    refine (if_pos h3).trans ?_
    cases h; rfl
  rw [if_neg h3] at h
  refine (if_neg h3).trans ?_
  by_cases h4 : vs.all (foldedForSure 8) = true
  · rw [if_pos h4] at h
    refine (if_pos h4).trans ?_
    cases h; rfl
  rw [if_neg h4] at h
  refine (if_neg h4).trans ?_
  by_cases h5 : vs.all (constantsAlone 8) = true
  · rw [if_pos h5] at h
    cases h
  rw [if_neg h5] at h
  refine (if_neg h5).trans ?_
  cases h; rfl
/-- which way an assignment goes -/
inductive Way where
  | plain | comp | par (ns : List Str)
def wayOf (g : SC) (t v : Expr) : Option Way := match t with
  | .Name x p => if swC g v x p then some .comp else some .plain
  | .Tuple ts _ _ => (match v with
    | .Tuple vs _ _ => (match swp g ts vs with
      | some none => some .plain
      | some (some ns) => some (.par ns)
      | none => none)
    | _ => some .plain)
  | .Subscript _ i _ => if isSlice i then none else some .plain
  | _ => none
def loc1 (g : SC) (x : Str) : Bool := decide (g.sc.names.lookup x = some .local)
/-- a, b = x, y by names -/
def parOk (g : SC) (ns : List Str) : MG → ME → Expr → Expr → Bool
  | .tp [.nm i, .nm j], .tup [_, _], .Tuple [.Name x _, .Name y _] _ _, .Tuple [a, b] _ _ => decide (i ≠ j) && loc1 g x && loc1 g y && decide (ns = [x, y])
  | .tp [.nm i, .nm j, .nm l], .tup [_, _, _], .Tuple [.Name x _, .Name y _, .Name z _] _ _, .Tuple [a, b, c] _ _ => decide (i ≠ j) && decide (i ≠ l) && decide (j ≠ l) && loc1 g x && loc1 g y && loc1 g z && decide (ns = [x, y, z])
  | _, _, _, _ => false
/-- what is looked at within an except suite -/
def SC.suite (g : SC) (i : Nat) : SC := { g with hot := true, exn := some i }
def isLc : ME → Expr → Bool
  | .lc .., .ListComp .. => true
  | _, _ => false
def wayOk (g : SC) (m : MG) (e : ME) (t v : Expr) : Bool := match wayOf g t v with
  | some .plain => true
  | some .comp => isLc e v
  | some (.par ns) => !g.hot && parOk g ns m e t v
  | none => false
mutual
def chkS (g : SC) : MS → Stmt → Bool
  | .pass, s => (match s with
    | .Pass _ => true
    | .Expr (.Constant (.str _) _ _) _ => true
    | _ => false)
  | .ex e, s => (match s with
    | .Expr x _ => !isComp x && chkE g e x
    | _ => false)
  | .asg m e, s => (match s with
    | .Assign [t] v _ => chkG g m t && chkE g e v && wayOk g m e t v
    | _ => false)
  | .asgI a i e, s => (match s with
    | .Assign [.Subscript o x _] v _ => !isSlice x && chkE g a o && chkE g i x && chkE g e v
    | _ => false)
  | .aug i op e, s => (match s with
    | .AugAssign (.Name x _) o v _ => decide (o = opB op) && decide (g.N[i]? = some x) && loc? g x && chkE g e v
    | _ => false)
  | .augI a i op e, s => (match s with
    | .AugAssign (.Subscript o x _) p v _ => decide (p = opB op) && !isSlice x && chkE g a o && chkE g i x && chkE g e v
    | _ => false)
  | .iff c a b, s => (match s with
    | .If c' a' b' _ => chkT g c c' && chkSs g a a' && chkSs g b b'
    | _ => false)
  | .whl c a, s => (match s with
    | .While c' a' [] _ => chkT g c c' && chkSs g a a'
    | _ => false)
  | .for_ tg ik src a, s => (match s with
    | .For t it a' [] _ => (match srcOf g ik t it with
      | some xs => chkG g tg t && chkEs g src xs && chkSs g a a' && !g.hot
      | none => false)
    | _ => false)
  | .forW tg src a, s => (match s with
    | .For t it a' [] _ => chkG g tg t && chkE g src it && chkSs g a a' && !isSet it && !g.hot
    | _ => false)
  | .ret e, s => (match s with
    | .Return (some x) _ => chkE g e x
    | _ => false)
  | .retN, s => (match s with
    | .Return none _ => true
    | _ => false)
  | .fset c a f e, s => (match s with
    | .Assign [.Attribute o n _] v _ => decide (g.T.fnames[f]? = some n) && (match g.T.cls[c]? with
      | some ci => ci.fields.contains f
      | none => false) && chkE g a o && chkE g e v
    | _ => false)
  | .faug c a f op e, s => (match s with
    | .AugAssign (.Attribute o n _) p v _ => decide (p = opB op) && decide (g.T.fnames[f]? = some n) && (match g.T.cls[c]? with
      | some ci => ci.fields.contains f
      | none => false) && chkE g a o && chkE g e v
    | _ => false)
  | .raise c es, s => (match s with
    | .Raise (some (.Call (.Name x _) xs [] _)) none _ => (match g.T.errs[c]? with
      | some ei => decide (ei.name = x) && gl? g x && chkEs g es xs && decide (xs.length = ei.np) && !g.hot
      | none => false)
    | _ => false)
  | .tryE body c slot suite, s => (match s with
    | .Try bs [.ExceptHandler (some (.Name x _)) (some n) (b₀ :: ss) _] [] [] _ => (match slot, g.T.errs[c]? with
      | some i, some ei => decide (ei.name = x) && gl? g x && decide (g.N[i]? = some n) && decide (g.sc.names.lookup n = some .local) && !g.hot && g.top && chkSs g body bs && chkSs (g.suite i) suite (b₀ :: ss)
      | _, _ => false)
    | _ => false)
  | .brk, s => (match s with
    | .Break _ => true
    | _ => false)
  | .cnt, s => (match s with
    | .Continue _ => true
    | _ => false)
def chkSs (g : SC) : List MS → List Stmt → Bool
  | [], ss => ss.isEmpty
  | m :: ms, ss => (match ss with
    | s :: ss => chkS g m s && chkSs g ms ss
    | [] => false)
end
section
variable {X : Cx} {g : SC} {M : Nm} {S : Sem} {W : WX} {k : Nat}
def SS (X : Cx) (M : Nm) (S : Sem) (W : WX) (m : MS) (s : Stmt) : Prop := ∃ t, PS X s t ∧ RdS M X.K W t (exS S m)
def SSs (X : Cx) (M : Nm) (S : Sem) (W : WX) (ms : List MS) (ss : List Stmt) : Prop := ∃ t, PSs X ss t ∧ RdS M X.K W t (exSs S ms)
/-! ### readings -/
theorem rd_seq {t u : TS} {f : Slots → Store → Option FR} {ms : List MS} (h : RdS M X.K W t f) (h' : RdS M X.K W u (exSs S ms)) :
    RdS M X.K W (tSeq t u) fun φ st => match f φ st with
      | some (.nx φ st) => exSs S ms φ st
      | r => r := by
  intro D σ H φ F ρ st r hh hs e p
  show t { D with nx := u D } σ H
  dsimp only at e
  cases q : f φ st with
  | none => rw [q] at e; cases e
  | some a =>
    rw [q] at e
    refine h _ σ H φ F ρ st a hh hs q ?_
    cases a with
    | nx φ1 st1 => exact fun F1 ρ1 H1 σ1 g1 h1 s1 => h' D σ1 H1 φ1 F1 ρ1 st1 r h1 s1 e (p.g g1)
    | rt v st1 => cases e; exact p
    | bk φ1 st1 => cases e; exact p
    | ct φ1 st1 => cases e; exact p
    | ex x φ1 st1 => cases e; exact p
theorem rd_drop {t : TE} {f : Slots → Store → Option ER} (h : RdE M X.K W t f) : RdS M X.K W (tDrop t) fun φ st => R.bf φ (f φ st) fun _ st => some (.nx φ st) := by
  intro D σ H φ F ρ st r hh hs e p
  refine h.bindS (U := fun _ H1 => D.nx σ H1) hh hs e p fun x st1 F1 ρ1 H1 v e1 g1 h1 r1 p1 => ?_
  simp only [Option.some.injEq] at e1
  subst e1
  exact p1 F1 ρ1 H1 σ (G.refl _ _ _) h1 (hs.g g1)
theorem rd_ret {t : TE} {f : Slots → Store → Option ER} (h : RdE M X.K W t f) : RdS M X.K W (tRet t) fun φ st => R.bf φ (f φ st) fun v st => some (.rt v st) := by
  intro D σ H φ F ρ st r hh hs e p
  refine h.bindS (U := D.rt) hh hs e p fun x st1 F1 ρ1 H1 v e1 g1 h1 r1 p1 => ?_
  simp only [Option.some.injEq] at e1
  subst e1
  exact p1 F1 ρ1 H1 v (G.refl _ _ _) h1 r1
theorem rd_asg {te : TE} {tg : TG} {f : Slots → Store → Option ER} {m : MG} (h : RdE M X.K W te f) (hg : RdG M X.K tg m) : RdS M X.K W (tAsg te tg) fun φ st => R.bf φ (f φ st) fun v st => (asgG m v φ).map fun φ => .nx φ st := by
  intro D σ H φ F ρ st r hh hs e p
  refine h.bindS (U := fun x H1 => tg x σ H1 D.nx) hh hs e p fun x st1 F1 ρ1 H1 v e1 g1 h1 r1 p1 => ?_
  simp only [Option.map_eq_some_iff] at e1
  obtain ⟨φ1, e2, e3⟩ := e1
  subst e3
  exact hg x v φ φ1 σ F1 ρ1 H1 st1 _ h1 (hs.g g1) r1 e2 fun σ1 s1 _ => p1 F1 ρ1 H1 σ1 (G.refl _ _ _) h1 s1
theorem rd_if {tc : TT} {t u : TS} {f : Slots → Store → Option ET} {a b : Slots → Store → Option FR} (hc : RdT M X.K W tc f) (ha : RdS M X.K W t a) (hb : RdS M X.K W u b) :
    RdS M X.K W (tIfS tc t u) fun φ st => T.bf φ (f φ st) fun d st => if d then a φ st else b φ st := by
  intro D σ H φ F ρ st r hh hs e p
  refine hc.bindS (U := fun b H1 => if b = true then t D σ H1 else u D σ H1) hh hs e p fun d st1 F1 ρ1 H1 e1 g1 h1 p1 => ?_
  cases d with
  | true => exact ha D σ H1 φ F1 ρ1 st1 r h1 (hs.g g1) e1 p1
  | false => exact hb D σ H1 φ F1 ρ1 st1 r h1 (hs.g g1) e1 p1
theorem rd_while {tc : TT} {tb : TS} {f : Slots → Store → Option ET} {a : Slots → Store → Option FR} {n : Nat} (hc : RdT M X.K W tc f) (hb : RdS M X.K W tb a) : RdS M X.K W (tWhile tc tb) (whLoop f a n) := by
  intro D σ H φ F ρ st r hh hs e p
  obtain ⟨Inv, hInv⟩ : ∃ Inv : Nat → L2.St → Hp → Prop, Inv = fun m σ' H' => ∃ φ F2 ρ2 st2, G F ρ H F2 ρ2 H' ∧ HR' M X.K F2 ρ2 H' st2 ∧ SL M X.K F2 ρ2 σ' φ ∧ whLoop f a m φ st2 = some r := ⟨_, rfl⟩
  refine ⟨Inv, ⟨n, by rw [hInv]; exact ⟨φ, F, ρ, st, G.refl _ _ _, hh, hs, e⟩⟩, ?_⟩
  intro m σ1 H1 hI
  rw [hInv] at hI
  obtain ⟨φ1, F1, ρ1, st1, g1, h1, s1, e1⟩ := hI
  cases m with
  | zero => cases e1
  | succ m =>
    unfold whLoop at e1
    refine hc.bindS (U := fun b H2 => if b = true then ∃ N : L2.St → Hp → Prop, (∀ σ' H', N σ' H' → ∃ m', m' < m + 1 ∧ Inv m' σ' H') ∧ tb { D with nx := N, ct := N, bk := D.nx } σ1 H2 else D.nx σ1 H2) h1 s1 e1 (p.g g1) fun b st2 F2 ρ2 H2 e2 g2 h2 p2 => ?_
    cases b with
    | false =>
      rw [if_neg Bool.false_ne_true]
      simp only [Bool.false_eq_true, if_false, Option.some.injEq] at e2
      subst e2
      exact p2 F2 ρ2 H2 σ1 (G.refl _ _ _) h2 (s1.g g2)
    | true =>
      rw [if_pos rfl]
      refine ⟨Inv m, fun σ' H' q => ⟨m, Nat.lt_succ_self m, q⟩, ?_⟩
      simp only [if_true] at e2
      cases q : a φ1 st2 with
      | none => rw [q] at e2; cases e2
      | some r2 =>
        rw [q] at e2
        refine hb _ σ1 H2 φ1 F2 ρ2 st2 r2 h2 (s1.g g2) q ?_
        cases r2 with
        | nx φ3 st3 => exact fun F3 ρ3 H3 σ3 g3 h3 s3 => by rw [hInv]; exact ⟨φ3, F3, ρ3, st3, (g1.trans g2).trans g3, h3, s3, e2⟩
        | ct φ3 st3 => exact fun F3 ρ3 H3 σ3 g3 h3 s3 => by rw [hInv]; exact ⟨φ3, F3, ρ3, st3, (g1.trans g2).trans g3, h3, s3, e2⟩
        | bk φ3 st3 => cases e2; exact fun F3 ρ3 H3 σ3 g3 h3 s3 => p2 F3 ρ3 H3 σ3 g3 h3 s3
        | rt v st3 => cases e2; exact p2
        | ex x φ3 st3 => cases e2; exact p2
theorem rd_for {wi : TI} {tg : TG} {tb : TS} {m : MG} {ik : IK} {src : List ME} {body : List MS} (hi : RdI M X.K W S wi ik src) (hg : RdG M X.K tg m) (hb : RdS M X.K W tb (exSs S body)) : RdS M X.K W (tFor wi tg tb) (exS S (.for_ m ik src body)) := by
  intro D σ H φ F ρ st r hh hs e post
  obtain ⟨hok, hex⟩ := hi σ H _ φ F ρ st hh hs
  simp only [exS] at e
  cases q : evEs S src φ st with
  | none => rw [q] at e; cases e
  | some rs =>
    rw [q] at e
    cases rs with
    | ex x st1 =>
      have e' : r = .ex x φ st1 := (Option.some.inj e).symm
      subst e'
      exact hex x st1 q fun F1 ρ1 H1 cls d g1 h1 x1 => post F1 ρ1 H1 σ cls d g1 h1 (hs.g g1) x1
    | ok vs st1 =>
      simp only [Rs.bf] at e
      cases qu : unpv vs with
      | none => simp [qu] at e
      | some ps =>
        simp only [qu] at e
        cases qi : items ik ps with
        | none => simp [qi] at e
        | some xs =>
          simp only [qi] at e
          refine hok vs st1 ps xs q qu qi fun F1 ρ1 H1 J g1 h1 ito => ?_
          obtain ⟨step, hstep⟩ : ∃ step : PV → Slots → Store → Option FR, step = fun x φ st => match asgG m (.pv x) φ with
            | some φ => exSs S body φ st
            | none => none := ⟨_, rfl⟩
          have e : forLoop step xs φ st1 = some r := by rw [hstep]; exact e
          obtain ⟨Inv, hInv⟩ : ∃ Inv : Nat → L2.St → Hp → Prop, Inv = fun i σ' H' => i ≤ xs.length ∧ ∃ φ F2 ρ2 st2, G F1 ρ1 H1 F2 ρ2 H' ∧ HR' M X.K F2 ρ2 H' st2 ∧ SL M X.K F2 ρ2 σ' φ ∧ forLoop step (xs.drop i) φ st2 = some r := ⟨_, rfl⟩
          refine ⟨fun i n σ' H' => n = xs.length - i ∧ Inv i σ' H', ⟨xs.length, by simp, by rw [hInv]; exact ⟨Nat.zero_le _, φ, F1, ρ1, st1, G.refl _ _ _, h1, hs.g g1, by simpa using e⟩⟩, ?_⟩
          rintro i n σ2 H2 ⟨rfl, hI⟩
          rw [hInv] at hI
          obtain ⟨hi, φ2, F2, ρ2, st2, g2, h2, s2, e2⟩ := hI
          by_cases hlt : i < xs.length
          · refine .inr ?_
            have hx : xs[i]? = some xs[i] := List.getElem?_eq_getElem hlt
            obtain ⟨hgo, hy⟩ := ito.at_ i xs[i] F2 H2 hx g2.sub h2.sub
            rw [List.drop_eq_getElem_cons hlt] at e2
            unfold forLoop at e2
            refine ⟨hgo, Inv (i + 1), fun σ' H' hN => ⟨xs.length - (i + 1), by omega, rfl, hN⟩, fun x H' hyl => ?_⟩
            have item : ∃ F3 , G F2 ρ2 H2 F3 ρ2 H' ∧ HR' M X.K F3 ρ2 H' st2 ∧ RP X.K F3 xs[i] x := by
              rcases hy x H' hyl with ⟨e1, e2⟩ | ⟨T, o, e0, e1, e2⟩
              · subst e1
                exact ⟨F2, G.refl _ _ _, h2, e2⟩
              · subst e1
                obtain ⟨g3, h3⟩ := h2.new e0 o
                exact ⟨_, g3, h3, e2⟩
            obtain ⟨F3, g3, h3, rx⟩ := item
            cases qs : step xs[i] φ2 st2 with
            | none => rw [qs] at e2; cases e2
            | some r3 =>
              rw [qs] at e2
              rw [hstep] at qs
              cases qa : asgG m (.pv xs[i]) φ2 with
              | none => simp [qa] at qs
              | some φ3 =>
                simp only [qa] at qs
                refine hg (.pv xs[i]) x φ2 φ3 σ2 F3 ρ2 H' st2 _ h3 (s2.g g3) (by simp only [RL]; exact rx) qa fun σ3 s3 _ => ?_
                refine hb _ σ3 H' φ3 F3 ρ2 st2 r3 h3 s3 qs ?_
                have gg := (g2.trans g3)
                cases r3 with
                | nx φ4 st4 => exact fun F4 ρ4 H4 σ4 g4 h4 s4 => by rw [hInv]; exact ⟨hlt, φ4, F4, ρ4, st4, gg.trans g4, h4, s4, e2⟩
                | ct φ4 st4 => exact fun F4 ρ4 H4 σ4 g4 h4 s4 => by rw [hInv]; exact ⟨hlt, φ4, F4, ρ4, st4, gg.trans g4, h4, s4, e2⟩
                | bk φ4 st4 => cases e2; exact fun F4 ρ4 H4 σ4 g4 h4 s4 => post F4 ρ4 H4 σ4 ((g1.trans gg).trans g4) h4 s4
                | rt v st4 => cases e2; exact (post.g g1).g gg
                | ex x φ4 st4 => cases e2; exact (post.g g1).g gg
          · have hi' : i = xs.length := by omega
            subst hi'
            refine .inl ⟨ito.stop F2 H2 g2.sub h2.sub, ?_⟩
            rw [List.drop_length] at e2
            simp only [forLoop, Option.some.injEq] at e2
            subst e2
            exact post F2 ρ2 H2 σ2 (g1.trans g2) h2 s2
/-- a list walked where it stands -/
theorem rd_forW {tg : TG} {tb : TS} {tl : TE} {m : MG} {src : ME} {body : List MS} (hi : RdE M X.K W tl (evE S src)) (hg : RdG M X.K tg m) (hb : RdS M X.K W tb (exSs S body)) : RdS M X.K W (tFor (iList X.K tl) tg tb) (exS S (.forW m src body)) := by
  intro D σ H φ F ρ st r hh hs e post
  simp only [exS] at e
  show tl σ H _
  refine hi.bindS hh hs e post fun v st1 F1 ρ1 H1 w e1 g1 h1 r1 p1 => ?_
  cases v with
  | pv _ => simp at e1
  | tup _ => simp at e1
  | exn _ => simp at e1
  | ref n =>
    simp only at e1
    simp only [RL] at r1
    obtain ⟨a, ew, ea⟩ := r1
    subst ew
    obtain ⟨step, hstep⟩ : ∃ step : LV → Slots → Store → Option FR, step = fun x φ st => match asgG m x φ with
      | some φ => exSs S body φ st
      | none => none := ⟨_, rfl⟩
    have e : forWalk step n (walkF n st1) 0 φ st1 = some r := by rw [hstep]; exact e1
    have there : ∃ xs, SqL X.K H1 a xs := by
      obtain ⟨c, ec, hc⟩ := h1.at ea
      unfold walkF at e
      rw [ec] at e
      cases c with
      | lst live ys => obtain ⟨vs, h1, _⟩ := hc; exact ⟨vs, .inl (.inl h1)⟩
      | dk _ _ => simp [forWalk] at e
      | dt _ _ => simp [forWalk] at e
      | ins _ _ => simp [forWalk] at e
    refine ⟨a, rfl, there, ?_⟩
    obtain ⟨Inv, hInv⟩ : ∃ Inv : Nat → Nat → L2.St → Hp → Prop, Inv = fun i f σ' H' => ∃ φ F2 ρ2 st2, G F1 ρ1 H1 F2 ρ2 H' ∧ HR' M X.K F2 ρ2 H' st2 ∧ SL M X.K F2 ρ2 σ' φ ∧ forWalk step n f i φ st2 = some r := ⟨_, rfl⟩
    refine ⟨fun i f σ' H' => Inv i f σ' H', ⟨walkF n st1, by rw [hInv]; exact ⟨φ, F1, ρ1, st1, G.refl _ _ _, h1, hs.g g1, e⟩⟩, ?_⟩
    rintro i f σ2 H2 hI
    rw [hInv] at hI
    obtain ⟨φ2, F2, ρ2, st2, g2, h2, s2, e2⟩ := hI
    cases f with
    | zero => simp [forWalk] at e2
    | succ f =>
      unfold forWalk at e2
      have ea2 : ρ2[n]? = some a := g2.pre _ _ ea
      obtain ⟨c, ec, hc⟩ := h2.at ea2
      rw [ec] at e2
      cases c with
      | dk _ _ => simp at e2
      | dt _ _ => simp at e2
      | ins _ _ => simp at e2
      | lst live ys =>
        simp only at e2
        obtain ⟨vs, hv1, hv2, _⟩ := hc
        have hq : SqL X.K H2 a vs := .inl (.inl hv1)
        cases hx : ys[i]? with
        | none =>
          rw [hx] at e2
          simp only [Option.some.injEq] at e2
          subst e2
          refine .inl ⟨⟨vs, hq, ?_⟩, p1 F2 ρ2 H2 σ2 g2 h2 s2⟩
          rw [← hv2.length]
          exact List.getElem?_eq_none_iff.mp hx
        | some x =>
          rw [hx] at e2
          simp only at e2
          obtain ⟨u, hu1, hu2⟩ := hv2.get hx
          refine .inr ⟨⟨vs, u, hq, hu1⟩, Inv (i + 1) f, fun σ' H' hN => ⟨f, Nat.lt_succ_self _, hN⟩, fun y H' hyl => ?_⟩
          obtain ⟨eH, hy⟩ := hyl
          subst eH
          have hy2 := hy vs hq
          rw [hu1] at hy2
          cases hy2
          cases qs : step x φ2 st2 with
          | none => rw [qs] at e2; cases e2
          | some r3 =>
            rw [qs] at e2
            rw [hstep] at qs
            cases qa : asgG m x φ2 with
            | none => simp [qa] at qs
            | some φ3 =>
              simp only [qa] at qs
              refine hg x u φ2 φ3 σ2 F2 ρ2 H' st2 _ h2 s2 hu2 qa fun σ3 s3 _ => ?_
              refine hb _ σ3 H' φ3 F2 ρ2 st2 r3 h2 s3 qs ?_
              cases r3 with
              | nx φ4 st4 => exact fun F4 ρ4 H4 σ4 g4 h4 s4 => by rw [hInv]; exact ⟨φ4, F4, ρ4, st4, g2.trans g4, h4, s4, e2⟩
              | ct φ4 st4 => exact fun F4 ρ4 H4 σ4 g4 h4 s4 => by rw [hInv]; exact ⟨φ4, F4, ρ4, st4, g2.trans g4, h4, s4, e2⟩
              | bk φ4 st4 => cases e2; exact fun F4 ρ4 H4 σ4 g4 h4 s4 => p1 F4 ρ4 H4 σ4 (g2.trans g4) h4 s4
              | rt v st4 => cases e2; exact p1.g g2
              | ex x φ4 st4 => cases e2; exact p1.g g2
/-! ### a op= b -/
def rAugZ (op : BO) : R2 := fun x y H Q => rAug op x y H Q ∨ (op = .add ∧ rExt2 x y H Q)
theorem op_augZ (op : BO) : OpR X (inplaceOp (opB op)) (rAugZ op) := by
  intro pins s σ H x y v u Q I rx ry h
  rcases h with h | ⟨e, h⟩
  · exact op_aug op pins s σ H x y v u Q I rx ry h
  · subst e
    exact iop_ext pins s σ H x y v u Q I rx ry h
theorem rd_augP {F H : Hp} {ρ : List Addr} {st : Store} {σ : L2.St} {op : BO} {p q z : PV} {v w : V} {Q : VK} (hh : HR' M X.K F ρ H st) (hp : PK X.K F H p v) (hq : PK X.K F H q w) (e : doAug op p q = some z) (post : PostE M X.K W σ F ρ H Q (.ok (.pv z) st)) : rAug op v w H Q := by
  cases op <;> cases p <;> simp only [doAug, doBin, reduceCtorEq] at e <;> cases q <;> simp only [doBin, Option.some.injEq, reduceCtorEq] at e
  case add.int.int i j => subst e; exact .inl ⟨i, j, hp.int, hq.int, post.tree hh (by simp only [RP])⟩
  case add.str.str x y =>
    split at e
    · rename_i hl
      simp only [Option.some.injEq] at e
      subst e
      refine .inr ⟨mkS x, mkS y, hp.str.1, hq.str.1, by rw [mkS_len, mkS_len, line_eq]; exact hl, post.tree hh ?_⟩
      simp only [RP]
      exact ⟨by rw [mkS_append], okS_append hp.str.2 hq.str.2⟩
    · cases e
  case sub.int.int i j => subst e; exact ⟨i, j, hp.int, hq.int, post.tree hh (by simp only [RP])⟩
  case mul.int.int i j =>
    split at e
    · rename_i hl
      simp only [Option.some.injEq] at e
      subst e
      exact ⟨i, j, hp.int, hq.int, mulOk_ok hl, post.tree hh (by simp only [RP])⟩
    · cases e
  case fdiv.int.int i j =>
    split at e
    · rename_i hl
      simp only [Option.some.injEq] at e
      subst e
      exact ⟨i, j, hp.int, hq.int, divOk_ok hl, post.tree hh (by simp only [RP])⟩
    · cases e
  case mod.int.int i j =>
    split at e
    · rename_i hl
      simp only [Option.some.injEq] at e
      subst e
      exact ⟨i, j, hp.int, hq.int, hl, post.tree hh (by simp only [RP])⟩
    · cases e
theorem sq_okQ {F H : Hp} {ρ : List Addr} {st : Store} {y : LV} {w : V} {ys : List LV} (hh : HR' M X.K F ρ H st) (r : RL X.K F ρ y w) (e : sq st y = some ys) : ∃ b ws, w = .ref b ∧ H b = some (.lst ws) ∧ RLs X.K F ρ ys ws := by
  cases y with
  | tup _ => simp [sq] at e
  | exn _ => simp [sq] at e
  | pv p =>
    cases p <;> simp only [sq, Option.some.injEq, reduceCtorEq] at e
    subst e
    simp only [RL, RP] at r
    obtain ⟨b, ws, e1, e2, e3⟩ := r
    exact ⟨b, ws, e1, hh.sub _ _ e2, RLs_pv.mpr e3⟩
  | ref n =>
    simp only [RL] at r
    obtain ⟨b, e1, e2⟩ := r
    obtain ⟨c, ec, hc⟩ := hh.at e2
    simp only [sq, ec] at e
    cases c <;> simp only [Option.some.injEq, reduceCtorEq] at e
    subst e
    obtain ⟨ws, h1, h2, _⟩ := hc
    exact ⟨b, ws, e1, h1, h2⟩
theorem rd_augOp (op : BO) : RdV2 M X.K W (rAugZ op) (augOp op) := by
  intro σ H Q F ρ st x y v w res hh rx ry e p
  cases x with
  | tup _ => simp [augOp] at e
  | exn _ => simp [augOp] at e
  | pv a =>
    simp only [augOp] at e
    split at e
    · rename_i q hq
      cases ez : doAug op a q with
      | none => simp [ez, okP] at e
      | some z =>
        simp only [ez, okP, Option.some.injEq] at e
        subst e
        exact .inl (rd_augP hh (peek_ok hh rx (by simp only [peek])) (peek_ok hh ry hq) ez p)
    · cases e
  | ref n =>
    simp only [augOp] at e
    split at e
    · rename_i xs ys e1 e2
      split at e
      · rename_i hl
        simp only [Option.some.injEq] at e
        subst e
        simp only [RL] at rx
        obtain ⟨a, ea, en⟩ := rx
        obtain ⟨c, ec, hc⟩ := hh.at en
        rw [e1] at ec
        cases ec
        obtain ⟨vs, h1, h2, h3, _⟩ := hc
        obtain ⟨b, ws, eb, hb, rb⟩ := sq_okQ hh ry e2
        refine .inr ⟨rfl, a, b, vs, ws, ea, eb, h1, hb, by rw [← h2.length, ← rb.length, line_eq]; exact hl, ?_⟩
        obtain ⟨g2, hh2⟩ := hh.write en (h3 rfl) (o := .lst (vs ++ ws)) (c := .lst true (xs ++ ys)) ⟨_, upd_same, h2.append rb, fun _ => h3 rfl, fun z => Bool.noConfusion z⟩
        exact p _ _ _ _ g2 hh2 (by simp only [RL]; exact ⟨a, rfl, en⟩)
      · cases e
    · cases e
theorem rd_augS {te : TE} {f : Slots → Store → Option ER} {op : BO} {i : Nat} (h : RdE M X.K W te f) : RdS M X.K W (tAug i te (rAugZ op)) fun φ st => match φ[i]? with
    | some (some x) => R.bf φ (f φ st) fun y st => R.bf φ (augOp op x y st) fun z st => some (.nx (φ.set i (some z)) st)
    | _ => none := by
  intro D σ H φ F ρ st r hh hs e p
  dsimp only at e
  split at e
  · rename_i x hx
    obtain ⟨v, hv, rv⟩ := hs.2 i x hx
    refine ⟨v, hv, ?_⟩
    refine h.bindS (U := fun y H1 => rAugZ op v y H1 fun z H2 => D.nx (σ.set i (some z)) H2) hh hs e p fun y st1 F1 ρ1 H1 w e1 g1 h1 r1 p1 => ?_
    cases q : augOp op x y st1 with
    | none => rw [q] at e1; cases e1
    | some a =>
      rw [q] at e1
      have hx2 : ∀ z, x ≠ .exn z := fun z hz => by rw [hz] at q; simp [augOp] at q
      refine rd_augOp op σ H1 _ F1 ρ1 st1 x y v w a h1 (RL.mono g1.sub g1.pre _ _ (rv.rl hx2)) r1 q (W := W) ?_
      cases a with
      | ok z st2 =>
        cases e1
        exact fun F2 ρ2 H2 u g2 h2 r2 => p1 F2 ρ2 H2 _ g2 h2 ((hs.g (g1.trans g2)).set i r2)
      | ex x st2 =>
        cases e1
        exact fun F2 ρ2 H2 cls d g2 h2 x2 => p1 F2 ρ2 H2 σ cls d g2 h2 (hs.g (g1.trans g2)) x2
  · cases e
/-! ### a[i] = x -/
def rSetD : V → V → V → Hp → (Hp → Prop) → Prop := fun o i v H Q => ∃ a H', o = .ref a ∧ DPut H a i v H' ∧ Q H'
def rSetZ : V → V → V → Hp → (Hp → Prop) → Prop := fun o i v H Q => rSetL o i v H Q ∨ rSetD o i v H Q
theorem set_Z (hu : room2 X) : PSet X rSetZ := by
  intro pins s σ H o i v ov iv u Q I ro ri rv h
  rcases h with h | ⟨a, H', e, g, q⟩
  · exact set_list pins s σ H o i v ov iv u Q I ro ri rv h
  · subst e
    obtain rfl : ov = Value.ref a := ro
    exact d_setItem (by have h1 : X.A.units + 600 < cLine := hu; omega) I g ri rv fun s4 I4 => ⟨H', I4, q⟩
section
variable {K : PySem.W.Frag} {F : Hp} {ρ : List Addr}
theorem any_t {k : List Ky} : ∀ {kvs : List (List Ky × LV)} {ks : List (List Key × V)}, RLt K F ρ kvs ks → (ks.any fun kv => decide (kv.1 = k.map kyS)) = has k kvs
  | [], ks, h => by simp only [RLt] at h; subst h; rfl
  | (j, p) :: r, ks, h => by
    simp only [RLt] at h
    obtain ⟨v, s, e1, e2, e3, e4⟩ := h
    subst e1
    by_cases hj : j = k
    · subst hj; simp [has, look]
    · have hn : ¬ j.map kyS = k.map kyS := fun e => hj (kySs_inj e)
      have ih := any_t (k := k) e4
      simp only [has, look, if_neg hj, List.any_cons, hn, decide_false, Bool.false_or] at ih ⊢
      exact ih
theorem map_t {k : List Ky} {x : LV} {v : V} (rx : RL K F ρ x v) : ∀ {kvs : List (List Ky × LV)} {ks : List (List Key × V)}, RLt K F ρ kvs ks → RLt K F ρ (kvs.map fun kv => if kv.1 = k then (kv.1, x) else kv) (ks.map fun kv => if kv.1 = k.map kyS then (kv.1, v) else kv)
  | [], ks, h => by simp only [RLt] at h; subst h; simp [RLt]
  | (j, p) :: r, ks, h => by
    simp only [RLt] at h
    obtain ⟨w, s, e1, e2, e3, e4⟩ := h
    subst e1
    have ih := map_t (k := k) rx e4
    by_cases hj : j = k
    · subst hj
      simp only [List.map_cons, if_true, RLt]
      exact ⟨v, _, rfl, e2, rx, ih⟩
    · have hn : ¬ j.map kyS = k.map kyS := fun e => hj (kySs_inj e)
      simp only [List.map_cons, if_neg hj, if_neg hn, RLt]
      exact ⟨w, _, rfl, e2, e3, ih⟩
theorem snoc_t {k : List Ky} {x : LV} {v : V} (hk : k.all okK = true) (rx : RL K F ρ x v) : ∀ {kvs : List (List Ky × LV)} {ks : List (List Key × V)}, RLt K F ρ kvs ks → RLt K F ρ (kvs ++ [(k, x)]) (ks ++ [(k.map kyS, v)])
  | [], ks, h => by simp only [RLt] at h; subst h; simp only [List.nil_append, RLt]; exact ⟨v, [], rfl, hk, rx, rfl⟩
  | (j, p) :: r, ks, h => by
    simp only [RLt] at h
    obtain ⟨w, s, e1, e2, e3, e4⟩ := h
    subst e1
    simp only [List.cons_append, RLt]
    exact ⟨w, _, rfl, e2, e3, snoc_t hk rx e4⟩
theorem put_t {k : List Ky} {x : LV} {v : V} {kvs : List (List Ky × LV)} {ks : List (List Key × V)} (hk : k.all okK = true) (rx : RL K F ρ x v) (h : RLt K F ρ kvs ks) : RLt K F ρ (putD k x kvs) (putK ks (k.map kyS) v) := by
  unfold putD putK
  rw [any_t h]
  split
  · exact map_t rx h
  · exact snoc_t hk rx h
theorem len_k : ∀ {kvs : List (Ky × LV)} {ks : List (Key × V)}, RLk K F ρ kvs ks → kvs.length = ks.length
  | [], ks, h => by simp only [RLk] at h; subst h; rfl
  | (j, p) :: r, ks, h => by
    simp only [RLk] at h
    obtain ⟨w, s, e1, e2, e3, e4⟩ := h
    subst e1
    simp [len_k e4]
theorem len_t : ∀ {kvs : List (List Ky × LV)} {ks : List (List Key × V)}, RLt K F ρ kvs ks → kvs.length = ks.length
  | [], ks, h => by simp only [RLt] at h; subst h; rfl
  | (j, p) :: r, ks, h => by
    simp only [RLt] at h
    obtain ⟨w, s, e1, e2, e3, e4⟩ := h
    subst e1
    simp [len_t e4]
end
theorem rd_setI {F H : Hp} {ρ : List Addr} {st st' : Store} {x y z : LV} {v w u : V} {Q : Hp → Prop} (hh : HR' M X.K F ρ H st) (rx : RL X.K F ρ x v) (ry : RL X.K F ρ y w) (rz : RL X.K F ρ z u) (e : setI x y z st = some st')
    (q : ∀ H', G F ρ H F ρ H' → HR' M X.K F ρ H' st' → Q H') : rSetZ v w u H Q := by
  cases x with
  | pv _ => simp [setI] at e
  | tup _ => simp [setI] at e
  | exn _ => simp [setI] at e
  | ref n =>
    simp only [setI] at e
    simp only [RL] at rx
    obtain ⟨a, ea, en⟩ := rx
    obtain ⟨c, ec, hc⟩ := hh.at en
    split at e
    · rename_i xs i e1
      rw [e1] at ec
      cases ec
      split at e
      · rename_i j hj
        simp only [Option.some.injEq] at e
        subst e
        obtain ⟨vs, h1, h2, h3, _⟩ := hc
        simp only [RL, RP] at ry
        refine .inl ⟨a, vs, i, j, ea, ry, h1, by rw [← h2.length]; exact hj, ?_⟩
        obtain ⟨g2, hh2⟩ := hh.write en (h3 rfl) (o := .lst (vs.set j u)) (c := .lst true (xs.set j z)) ⟨_, upd_same, h2.set rz j, fun _ => h3 rfl, fun z => Bool.noConfusion z⟩
        exact q _ g2 hh2
      · cases e
    · rename_i kvs k e1
      rw [e1] at ec
      cases ec
      split at e
      · rename_i ky hk
        split at e
        · rename_i hl
          simp only [Option.some.injEq] at e
          subst e
          obtain ⟨ks, h1, h2, h3, _⟩ := hc
          have pk := peek_ok hh ry (p := k) (by simp only [peek])
          obtain ⟨k1, k2⟩ := kV_of hk pk
          refine .inr ⟨a, _, ea, by rw [k1]; exact DPut.k h1 (by rw [← len_k h2, line_eq]; exact hl), ?_⟩
          obtain ⟨g2, hh2⟩ := hh.write en (h3 rfl) (o := .dK (putK ks (kyS ky) u)) (c := .dk true (putD ky z kvs)) ⟨_, upd_same, put_k k2 rz h2, fun _ => h3 rfl, fun z => Bool.noConfusion z⟩
          exact q _ g2 hh2
        · cases e
      · cases e
    · rename_i kvs k e1
      rw [e1] at ec
      cases ec
      split at e
      · rename_i ky hk
        split at e
        · rename_i hl
          simp only [Option.some.injEq] at e
          subst e
          obtain ⟨ks, h1, h2, h3, _⟩ := hc
          have pk := peek_ok hh ry (p := k) (by simp only [peek])
          obtain ⟨b, k1, k2⟩ := kT_of hh.sub hk pk
          have k3 := kT_ok hk pk
          refine .inr ⟨a, _, ea, by rw [k1]; exact DPut.t h1 k2 (by rw [← len_t h2, line_eq]; exact hl), ?_⟩
          obtain ⟨g2, hh2⟩ := hh.write en (h3 rfl) (o := .dT (putK ks (ky.map kyS) u)) (c := .dt true (putD ky z kvs)) ⟨_, upd_same, put_t k3 rz h2, fun _ => h3 rfl, fun z => Bool.noConfusion z⟩
          exact q _ g2 hh2
        · cases e
      · cases e
    · cases e
end
end Z
end

section
/-! ZQa: raise. -/
namespace Z
open PySem PySem.Spec PyProof.Rows L2
section
variable {X : Cx} {g : SC} {M : Nm} {S : Sem} {W : WX} {k : Nat}
/-- C() behind raise, C without an own __init__ -/
theorem pmk0 {x : Str} {C : Addr} {p pos : Pos} (q : PySem.W.excIn X.K C He.veBase "ValueError.__new__" = true) (gC : X.mg x = some (.ref C)) (kC : PySem.W.keepIn X.K (.ref C) = true) (r : Raises X (.ref C)) (hg : Gl X x) (hdb : (x == ("__debug__" : Str)) = false) :
    L2N.PMk X (.Call (.Name x p) [] [] pos) (fun _ H Q => Q (.ref C) none H) := by
  intro pins s σ H Q I h
  refine wpAny_Call_Name_kw (ld_glob I hg gC ?_ hdb)
  refine PySem.W.callWith_K0 I.kIn kC ?_
  show wpAny _ _ (call (.ref C) []) _ _ _
  obtain ⟨bm, N, nm, qn, bs, hdct, sn, sub, ab, col, dd, k0, k1, k2, k3, k5, mN, hC, hN, hni, T⟩ := exc_obj I.kIn q
  exact wpAny_call_exc_subT PySem.F.excBase_ValueError T hC hN hni (fun h' er hm => L2N.mk_of I hm r h (I.hok.gone hm.new)) (Nat.zero_le _)
theorem ext_ok {K : PySem.W.Frag} {F : Hp} {ps : List PV} {ys : List V} (r : RPs K F ps ys) : ∀ {fl : List (Nat × Nat)} {acc fs : List (Nat × PV)} {va : List V}, RPs K F (acc.map (·.2)) va → extP ps acc fl = some fs →
    ∃ vs, extF ys ((acc.map fun f => M.fnm f.1).zip va) (fl.map fun q => (M.fnm q.1, q.2)) = some ((fs.map fun f => M.fnm f.1).zip vs) ∧ RPs K F (fs.map (·.2)) vs
  | [], acc, fs, va, ra, e => by
    simp only [extP, Option.some.injEq] at e
    subst e
    exact ⟨va, rfl, ra⟩
  | (f, i) :: fl, acc, fs, va, ra, e => by
    unfold extP at e
    split at e
    · rename_i p hp
      obtain ⟨v, h1, h2⟩ := r.get hp
      have ra' : RPs K F (((f, p) :: acc).map (·.2)) (v :: va) := by
        simp only [List.map_cons, RPs]
        exact ⟨v, va, rfl, h2, ra⟩
      obtain ⟨vs, h3, h4⟩ := ext_ok r ra' e
      refine ⟨vs, ?_, h4⟩
      simp only [List.map_cons, extF, h1]
      simpa only [List.map_cons, List.zip_cons_cons] using h3
    · cases e
theorem no_fields {K : PySem.W.Frag} {F H : Hp} {c : Nat} : RX M K F H ⟨c, []⟩ (.ref (M.ead c)) none := ⟨rfl, .inl ⟨rfl, rfl⟩⟩
theorem ss_raise (C : Cok X g M S W k) (hot : g.hot = false) {c : Nat} {ei : EI} {x : Str} {p pos rpos : Pos} {es : List ME} {xs : List Expr} (he : g.T.errs[c]? = some ei) (hn : ei.name = x) (hg : gl? g x = true) (hs : SEs X M S W es xs) (hl : xs.length = ei.np) :
    SS X M S W (.raise c es) (.Raise (some (.Call (.Name x p) xs [] pos)) none rpos) := by
  have E := C.errs c ei he
  obtain ⟨g1, g2⟩ := C.gl hg
  have adr := E.adr
  rw [hn] at adr
  rcases E.make with ⟨fl0, np0, xin, kp, rs⟩ | ⟨np1, np2, T, fI, fd, ps, j, hj, iC, tI, FI, bd⟩
  · cases xs with
    | nil =>
      have hes : es = [] := by
        have := hs.len
        exact List.length_eq_zero_iff.mp this
      subst hes
      refine ⟨_, L2N.ps_raise (C.calm hot) C.takes (pmk0 xin adr kp rs g1 g2), ?_⟩
      intro D σ H φ F ρ st r hh hs2 e post
      simp only [exS, evEs, Rs.bf, E.xin, unpv, List.length_nil, np0, if_true, fl0, extP, Option.map_some, Option.some.injEq] at e
      subst e
      exact post F ρ H σ _ _ (G.refl _ _ _) hh hs2 no_fields
    | cons y ys =>
      rw [np0] at hl
      simp at hl
  · cases xs with
    | nil =>
      rw [← hl] at np1
      simp at np1
    | cons y ys =>
      obtain ⟨ta, a1, a2⟩ := hs.pa
      have st := hs.star
      simp only [List.all_cons, Bool.and_eq_true, Bool.not_eq_true'] at st
      have room : Room (j + 1) X.A := (C.hr hot).room hj
      refine ⟨_, L2N.ps_raise (C.calm hot) C.takes (pmkX T iC tI FI room bd (L2N.passes_call takesN fun _ _ _ _ z => z.elim) g1 adr a1 g2 (star_each st.1) (star_plain st.2)), ?_⟩
      intro D σ H φ F ρ st r hh hs2 e post
      simp only [exS] at e
      refine a2.bindS (U := fun vs H1 => vs.length ≤ 1000 ∧ ∀ a, H1 a = none → spI (M.ead c) (ei.fl.map fun q => (M.fnm q.1, q.2)) ei.np (.ref a :: (vs ++ [])) (upd H1 a (exo a (M.ead c) none)) (fun v H2 => v = .non ∧ ∃ (d : Addr) (fs : List (Str × V)), H2 a = some (exo a (M.ead c) (some d)) ∧ H2 d = some (exd d fs) ∧ H1 d = none ∧ W (.ref (M.ead c)) (some d) σ (upd (del H2 a) d (.xd fs))) (fun _ _ _ => False)) hh hs2 e post fun vs st1 F1 ρ1 H1 us e1 g1 h1 r1 p1 => ?_
      rw [E.xin] at e1
      split at e1
      · rename_i n fl ps heq hun
        cases heq
        split at e1
        · rename_i hlen
          simp only [Option.map_eq_some_iff] at e1
          obtain ⟨fs, e2, e3⟩ := e1
          subst e3
          rw [unpv_eq hun] at r1
          have rp := RLs_pv.mp r1
          obtain ⟨vs2, x1, x2⟩ := ext_ok (M := M) rp (acc := []) (va := []) (by simp only [List.map_nil, RPs]) e2
          refine ⟨by rw [← rp.length, hlen]; omega, fun a na => ⟨a, us, _, by rw [List.append_nil], by rw [← rp.length]; exact hlen, upd_same, x1, fun d H2 nd ne ea ed keep => ⟨rfl, d, _, ea, ed, by rw [upd_ne ne] at nd; exact nd, ?_⟩⟩⟩
          rw [upd_ne ne] at nd
          have eH : upd (del H2 a) d (.xd ((fs.map fun f => M.fnm f.1).zip vs2)) = upd H1 d (.xd ((fs.map fun f => M.fnm f.1).zip vs2)) := by
            funext b
            by_cases hb : b = d
            · rw [hb, upd_same, upd_same]
            · rw [upd_ne hb, upd_ne hb]
              by_cases hb2 : b = a
              · rw [hb2, del_same, na]
              · rw [del_ne hb2, keep b hb hb2, upd_ne hb2]
          rw [eH]
          obtain ⟨g2, h2⟩ := h1.new nd (.xd ((fs.map fun f => M.fnm f.1).zip vs2))
          refine p1 _ _ _ σ _ _ g2 h2 ((hs2.g g1).g g2) ⟨rfl, .inr ⟨d, vs2, rfl, upd_same, RPs.mono (sub_upd (h1.fresh nd)) _ _ x2⟩⟩
        · cases e1
      · cases e1
end
end Z
end

section
/-! ZQb: try. -/
namespace Z
open PySem PySem.Spec PyProof.Rows L2
theorem all_PSs {ι : Type} {Xs : ι → Cx} {ss : List Stmt} {M : Nm} {K : PySem.W.Frag} {W : WX} {f : Slots → Store → Option FR} (h : ∀ i, ∃ t, PSs (Xs i) ss t ∧ RdS M K W t f) : ∃ t, (∀ i, PSs (Xs i) ss t) ∧ RdS M K W t f := by
  refine ⟨fun D σ H => ∀ i, Classical.choose (h i) D σ H, fun i => ⟨fun pins s σ H D I q => (Classical.choose_spec (h i)).1.run pins s σ H D I (q i)⟩, fun D σ H φ F ρ st r hh hs e p i => (Classical.choose_spec (h i)).2 D σ H φ F ρ st r hh hs e p⟩
section
variable {X : Cx} {M : Nm} {S : Sem} {W : WX}
abbrev inM (M : Nm) (i : Nat) (a : Addr) (cls : Value) (d : Option Addr) : Nm := { M with cur := some (i, a, cls, d) }
theorem sl_in {K : PySem.W.Frag} {F : Hp} {ρ : List Addr} {σ : L2.St} {φ : Slots} {i : Nat} {a : Addr} {cls : Value} {d : Option Addr} {e : Ex} (hc : M.cur = none) (h : SL M K F ρ σ φ) (r : RF M K F e cls d) : SL (inM M i a cls d) K F ρ (σ.set i (some (.ref a))) (φ.set i (some (.exn e))) := by
  refine ⟨by simp [h.1], fun j x hx => ?_⟩
  by_cases hj : i = j
  · subst hj
    by_cases hl : i < φ.length
    · rw [List.getElem?_set_self hl] at hx
      cases hx
      exact ⟨_, List.getElem?_set_self (by rw [← h.1]; exact hl), a, cls, d, rfl, rfl, r⟩
    · rw [List.getElem?_eq_none (by simpa using Nat.le_of_not_lt hl)] at hx
      cases hx
  · rw [List.getElem?_set_ne hj] at hx ⊢
    obtain ⟨v, h1, h2⟩ := h.2 j x hx
    refine ⟨v, h1, .of (h2.rl fun z hz => ?_)⟩
    subst hz
    obtain ⟨a', c', d', h3, _⟩ := h2
    rw [hc] at h3; cases h3
theorem sl_out {K : PySem.W.Frag} {F : Hp} {ρ : List Addr} {σ : L2.St} {φ : Slots} {i : Nat} {a : Addr} {cls : Value} {d : Option Addr} (h : SL (inM M i a cls d) K F ρ σ φ) : SL M K F ρ (σ.set i none) (φ.set i none) := by
  refine ⟨by simp [h.1], fun j x hx => ?_⟩
  by_cases hj : i = j
  · subst hj
    by_cases hl : i < φ.length
    · rw [List.getElem?_set_self hl] at hx; cases hx
    · rw [List.getElem?_eq_none (by simpa using Nat.le_of_not_lt hl)] at hx; cases hx
  · rw [List.getElem?_set_ne hj] at hx ⊢
    obtain ⟨v, h1, h2⟩ := h.2 j x hx
    refine ⟨v, h1, .of (h2.rl fun z hz => ?_)⟩
    subst hz
    obtain ⟨a', c', d', h3, _⟩ := h2
    cases h3
    exact hj rfl
theorem rd_tryAs {c i : Nat} {body suite : List MS} {tb : WX → TS} {ts : Addr → Value → Option Addr → TS} (hcur : M.cur = none) (hb : ∀ W', RdS M X.K W' (tb W') (exSs S body)) (hsu : ∀ a cls d, RdS (inM M i a cls d) X.K W0 (ts a cls d) (exSs S suite))
    (hsub : ∀ (e : Ex), S.xin e.cls ≠ none → PySem.W.exmOne X.K (.ref (M.ead e.cls)) (.ref (M.ead c)) = some (S.sub e.cls c)) : RdS M X.K W (fun D σ H => tb (L2.wAs X.K (.ref (M.ead c)) i ts W D) D σ H) (exS S (.tryE body c (some i) suite)) := by
  intro D σ H φ F ρ st r hh hs e post
  simp only [exS] at e
  cases q : exSs S body φ st with
  | none => rw [q] at e; cases e
  | some rb =>
    rw [q] at e
    refine hb _ D σ H φ F ρ st rb hh hs q ?_
    cases rb with
    | nx φ1 st1 => cases e; exact post
    | rt v st1 => cases e; exact post
    | bk φ1 st1 => cases e; exact post
    | ct φ1 st1 => cases e; exact post
    | ex x φ1 st1 =>
      intro F1 ρ1 H1 σ1 cls d g1 h1 s1 x1
      simp only at e
      by_cases hn : (S.xin x.cls).isNone = true
      · rw [if_pos hn] at e; cases e
      rw [if_neg hn] at e
      have hx : S.xin x.cls ≠ none := by
        intro z
        rw [z] at hn
        exact hn rfl
      have hcls : cls = .ref (M.ead x.cls) := x1.1
      refine ⟨S.sub x.cls c, by rw [hcls]; exact hsub x hx, fun hy a na => ?_, fun hno => ?_⟩
      · rw [hy] at e
        simp only [if_true] at e
        cases qs : exSs S suite (φ1.set i (some (.exn x))) st1 with
        | none => rw [qs] at e; cases e
        | some rs =>
          rw [qs] at e
          refine hsu a cls d _ _ H1 _ F1 ρ1 st1 rs h1 (sl_in hcur s1 x1) qs ?_
          have p1 := post.g g1
          cases rs with
          | nx φ2 st2 =>
            cases e
            exact fun F2 ρ2 H2 σ2 g2 h2 s2 => p1 F2 ρ2 H2 _ g2 h2 (sl_out s2)
          | bk φ2 st2 =>
            cases e
            exact fun F2 ρ2 H2 σ2 g2 h2 s2 => p1 F2 ρ2 H2 _ g2 h2 (sl_out s2)
          | ct φ2 st2 =>
            cases e
            exact fun F2 ρ2 H2 σ2 g2 h2 s2 => p1 F2 ρ2 H2 _ g2 h2 (sl_out s2)
          | rt v st2 =>
            cases e
            exact fun F2 ρ2 H2 u g2 h2 r2 => p1 F2 ρ2 H2 u g2 h2 r2
          | ex y φ2 st2 => cases e
      · rw [hno] at e
        simp only [Bool.false_eq_true, if_false, Option.some.injEq] at e
        subst e
        exact post F1 ρ1 H1 σ1 cls d g1 h1 s1 x1
end
end Z
end

section
/-! ZQc: contexts of a try. -/
namespace Z
open PySem PySem.Spec PyProof.Rows L2
section
variable {X : Cx} {g : SC} {M : Nm} {S : Sem} {W : WX} {k : Nat}
theorem Cok.tr (C : Cok X g M S W k) (hot : g.hot = false) {W' : WX} {pn : List (Addr × Obj)} {xe : Value → Shared → Prop} (tk : L2N.Takes (X.tr pn xe) W') (pa : PassesOwn (model X.prog X.w) X.A X.env xe) : Cok (X.tr pn xe) g M S W' k where
  N := C.N
  sc := C.sc
  fn := C.fn
  nd := C.nd
  calm := C.calm
  hr := C.hr
  hrH := fun h => by rw [hot] at h; cases h
  hotc := fun h => by rw [hot] at h; cases h
  un := C.un
  gd := C.gd
  gdx := C.gdx
  tab := C.tab
  dtab := C.dtab
  fr := C.fr
  glb := C.glb
  callsH := C.callsH
  calls := C.calls
  errs := fun c ei h => ⟨(C.errs c ei h).adr, (C.errs c ei h).xf, (C.errs c ei h).ec, (C.errs c ei h).no, (C.errs c ei h).sub, (C.errs c ei h).xin, (C.errs c ei h).make⟩
  cls := fun c ci h => ⟨(C.cls c ci h).adr, (C.cls c ci h).cl, (C.cls c ci h).no, (C.cls c ci h).meth, (C.cls c ci h).make⟩
  nf := C.nf
  xerr := C.xerr
  finj := C.finj
  fname := C.fname
  cur := by
    have h1 := C.cur
    rw [C.cold hot] at h1 ⊢
    exact h1
  cold := C.cold
  stk := C.stk
  frm := C.frm
  takes := tk
  pass := pa
theorem Cok.suite (C : Cok X g M S W k) (hot : g.hot = false) {i : Nat} {a : Addr} {oe : Obj} {cls : Value} {d : Option Addr} {pn : List (Addr × Obj)} (hz : L2N.Zn cls d oe) (hf : ∃ vs, oe.data = .fields vs) : Cok (X.suite a ((a, oe) :: pn)) (g.suite i) (inM M i a cls d) S W0 k where
  N := C.N
  sc := C.sc
  fn := C.fn
  nd := C.nd
  calm := fun h => by cases h
  hr := fun h => by cases h
  hrH := fun _ => L2H.roomH_mark ((C.hr hot).room (Nat.le_refl 30)) _
  hotc := fun _ => by
    obtain ⟨vs, hv⟩ := hf
    exact ⟨(a, oe), ⟨rfl, vs, hv, hz.2.2 vs hv⟩, List.mem_cons_self⟩
  un := C.un
  gd := fun h => by cases h
  gdx := fun _ => C.gd hot
  tab := C.tab
  dtab := C.dtab
  fr := C.fr
  glb := C.glb
  callsH := C.callsH
  calls := fun h => by cases h
  errs := fun c ei h => ⟨(C.errs c ei h).adr, (C.errs c ei h).xf, (C.errs c ei h).ec, (C.errs c ei h).no, (C.errs c ei h).sub, (C.errs c ei h).xin, (C.errs c ei h).make⟩
  cls := fun c ci h => ⟨(C.cls c ci h).adr, (C.cls c ci h).cl, (C.cls c ci h).no, (C.cls c ci h).meth, (C.cls c ci h).make⟩
  nf := C.nf
  xerr := C.xerr
  finj := C.finj
  fname := C.fname
  cur := ⟨X, a, oe, cls, d, pn, rfl, rfl, hz.zc, hf⟩
  cold := fun h => by cases h
  stk := C.stk
  frm := C.frm
  takes := takesN
  pass := PassesOwn.never
/-- try: body, except x as n: suite -/
theorem ss_tryAs (C : Cok X g M S W k) (hot : g.hot = false) (top : g.top = true) {c i : Nat} {ei : EI} {x n : Str} {np hp pos : Pos} {body suite : List MS} {bs : List Stmt} {b₀ : Stmt} {ss : List Stmt} (he : g.T.errs[c]? = some ei) (hn : ei.name = x) (hg : gl? g x = true) (hi : g.N[i]? = some n) (hl : g.sc.names.lookup n = some .local)
    (hb : ∀ (X' : Cx) (W' : WX), Cok X' g M S W' k → SSs X' M S W' body bs) (hsu : ∀ (X' : Cx) (M' : Nm), Cok X' (g.suite i) M' S W0 k → SSs X' M' S W0 suite (b₀ :: ss)) :
    SS X M S W (.tryE body c (some i) suite) (.Try bs [.ExceptHandler (some (.Name x np)) (some n) (b₀ :: ss) hp] [] [] pos) := by
  have E := C.errs c ei he
  obtain ⟨g1, g2⟩ := C.gl hg
  have adr := E.adr
  rw [hn] at adr
  have hcur : M.cur = none := by
    have h1 := C.cur
    rw [C.cold hot] at h1
    exact h1
  have hbody : ∀ W' : WX, ∃ t, (∀ j : { q : List (Addr × Obj) × (Value → Shared → Prop) // L2N.Takes (X.tr q.1 q.2) W' ∧ PassesOwn (model X.prog X.w) X.A X.env q.2 }, PSs (X.tr j.1.1 j.1.2) bs t) ∧ RdS M X.K W' t (exSs S body) := fun W' =>
    all_PSs (Xs := fun j : { q : List (Addr × Obj) × (Value → Shared → Prop) // L2N.Takes (X.tr q.1 q.2) W' ∧ PassesOwn (model X.prog X.w) X.A X.env q.2 } => X.tr j.1.1 j.1.2) (K := X.K) fun j => hb _ W' (C.tr hot j.2.1 j.2.2)
  have hsuite : ∀ (a : Addr) (cls : Value) (d : Option Addr), ∃ t, (∀ j : { q : Obj × List (Addr × Obj) // L2N.Zn cls d q.1 ∧ ∃ vs, q.1.data = .fields vs }, PSs (X.suite a ((a, j.1.1) :: j.1.2)) (b₀ :: ss) t) ∧ RdS (inM M i a cls d) X.K W0 t (exSs S suite) := fun a cls d =>
    all_PSs (Xs := fun j : { q : Obj × List (Addr × Obj) // L2N.Zn cls d q.1 ∧ ∃ vs, q.1.data = .fields vs } => X.suite a ((a, j.1.1) :: j.1.2)) (K := X.K) fun j => hsu _ _ (C.suite hot j.2.1 j.2.2)
  refine ⟨_, L2N.ps_try_as (c := .ref (M.ead c)) (tb := fun W' => Classical.choose (hbody W')) (ts := fun a cls d => Classical.choose (hsuite a cls d)) (C.stk top) (C.frm top) C.nd (by rw [C.N]; exact hi) (by show X.env.scope.names.lookup n = _; rw [C.sc]; exact hl) ⟨g1, g2, .inl adr⟩ C.takes
    (fun W' pn xe tk pa => (Classical.choose_spec (hbody W')).1 ⟨(pn, xe), tk, pa⟩) (fun a oe cls d pn hz hf => (Classical.choose_spec (hsuite a cls d)).1 ⟨(oe, pn), hz, hf⟩), ?_⟩
  refine rd_tryAs hcur (fun W' => (Classical.choose_spec (hbody W')).2) (fun a cls d => (Classical.choose_spec (hsuite a cls d)).2) fun e hx => ?_
  obtain ⟨ei2, h2⟩ := C.xerr e.cls hx
  exact ((C.errs _ _ h2).sub c ei he).1
end
end Z
end

section
/-! ZQd: fields stored. -/
namespace Z
open PySem PySem.Spec PyProof.Rows L2
section
variable {X : Cx} {g : SC} {M : Nm} {S : Sem} {W : WX} {k : Nat}
theorem sw_attr {v o : Expr} {f : Str} {p : Pos} {env : Env} {l : Nat} : swapsWith v (some (.Attribute o f p)) l env = pure false := by
  unfold swapsWith
  cases v <;> rfl
theorem rd_setFl (C : Cok X g M S W k) {F H : Hp} {ρ : List Addr} {st st' : Store} {n f : Nat} {a dx : Addr} {c : Nat} {fs : List (Nat × LV)} {vs : List V} {y : LV} {v : V} (hh : HR' M X.K F ρ H st) (er : ρ[n]? = some a) (es : st[n]? = some (.ins c fs))
    (hr : RLs X.K F ρ (fs.map (·.2)) vs) (hF : F a = none) (ry : RL X.K F ρ y v) (e : setFl (.ref n) f y st = some st') :
    ((fs.map fun q => M.fnm q.1).zip vs).length < 1000 ∧ G F ρ H F ρ (upd H a (.ins (M.cad c) dx (putF (M.fnm f) v ((fs.map fun q => M.fnm q.1).zip vs)))) ∧ HR' M X.K F ρ (upd H a (.ins (M.cad c) dx (putF (M.fnm f) v ((fs.map fun q => M.fnm q.1).zip vs)))) st' := by
  simp only [setFl, es] at e
  split at e
  · rename_i hl
    simp only [Option.some.injEq] at e
    subst e
    obtain ⟨vs', h1, h2⟩ := put_zip (fnm := M.fnm) C.finj (f := f) ry hr
    refine ⟨by rw [List.length_zip, List.length_map]; omega, ?_⟩
    rw [h1]
    exact hh.write er hF ⟨dx, vs', upd_same, h2, hF⟩
  · cases e
theorem ss_fset (C : Cok X g M S W k) {c f : Nat} {a e : ME} {o v : Expr} {n : Str} {p pos : Pos} (h2 : g.T.fnames[f]? = some n) (h3 : (match g.T.cls[c]? with
      | some ci => ci.fields.contains f
      | none => false) = true) (ha : SE X M S W a o) (he : SE X M S W e v) : SS X M S W (.fset c a f e) (.Assign [.Attribute o n p] v pos) := by
  obtain ⟨ta, a1, a2⟩ := ha
  obtain ⟨te, e1, e2⟩ := he
  refine ⟨_, ps_fld a1 e1 sw_attr, ?_⟩
  split at h3
  · rename_i ci hci
    have CC := C.cls c ci hci
    have hn : M.fnm f = n := C.fname f n h2
    have hno : NoAttr X.K (M.cad c) n := by rw [← hn]; exact CC.no f (by simpa using h3)
    intro D σ H φ F ρ st r hh hs e p
    simp only [exS] at e
    refine e2.bindS (U := fun y H1 => ta σ H1 fun x H2 => ∃ a C dx fs, x = .ref a ∧ H2 a = some (.ins C dx fs) ∧ Cls X.K C ∧ NoAttr X.K C n ∧ fs.length < 1000 ∧ D.nx σ (upd H2 a (.ins C dx (putF n y fs)))) hh hs e p fun y st1 F1 ρ1 H1 v e1 g1 h1 r1 p1 => ?_
    refine a2.bindS (U := fun x H2 => ∃ a C dx fs, x = .ref a ∧ H2 a = some (.ins C dx fs) ∧ Cls X.K C ∧ NoAttr X.K C n ∧ fs.length < 1000 ∧ D.nx σ (upd H2 a (.ins C dx (putF n v fs)))) h1 (hs.g g1) e1 p1 fun x st2 F2 ρ2 H2 u e2 g2 h2 r2 p2 => ?_
    split at e2
    · rename_i hi
      obtain ⟨m, b, fs, dx, vs, ex, ev, er, es, hf, hH, hr, hF⟩ := ins_at h2 r2 hi
      subst ex ev
      simp only [Option.map_eq_some_iff] at e2
      obtain ⟨st3, e3, e4⟩ := e2
      subst e4
      obtain ⟨hl, g3, h3⟩ := rd_setFl C (dx := dx) h2 er es hr hF (RL.mono g2.sub g2.pre _ _ r1) e3
      refine ⟨b, _, dx, _, rfl, hH, CC.cl, hno, hl, ?_⟩
      rw [← hn]
      exact p2 F2 ρ2 _ σ g3 h3 (((hs.g g1).g g2).g g3)
    · cases e2
  · cases h3
theorem ss_faug (C : Cok X g M S W k) {c f : Nat} {op : BO} {a e : ME} {o v : Expr} {n : Str} {p pos : Pos} (h2 : g.T.fnames[f]? = some n) (h3 : (match g.T.cls[c]? with
      | some ci => ci.fields.contains f
      | none => false) = true) (ha : SE X M S W a o) (he : SE X M S W e v) : SS X M S W (.faug c a f op e) (.AugAssign (.Attribute o n p) (opB op) v pos) := by
  obtain ⟨ta, a1, a2⟩ := ha
  obtain ⟨te, e1, e2⟩ := he
  refine ⟨_, ps_fldaug (rd := rAugZ op) a1 e1 (fun pins s σ H x y u v Q I rx ry h => op_augZ op pins s σ H x y u v Q I rx ry h), ?_⟩
  split at h3
  · rename_i ci hci
    have CC := C.cls c ci hci
    have hn : M.fnm f = n := C.fname f n h2
    have hno : NoAttr X.K (M.cad c) n := by rw [← hn]; exact CC.no f (by simpa using h3)
    intro D σ H φ F ρ st r hh hs e p
    simp only [exS] at e
    refine a2.bindS (U := fun x H1 => ∃ a C dx fs v, x = .ref a ∧ H1 a = some (.ins C dx fs) ∧ Cls X.K C ∧ NoAttr X.K C n ∧ fs.lookup n = some v ∧
      te σ H1 fun y H2 => rAugZ op v y H2 fun z H3 => ∃ dx' fs', H3 a = some (.ins C dx' fs') ∧ fs'.length < 1000 ∧ D.nx σ (upd H3 a (.ins C dx' (putF n z fs')))) hh hs e p fun x st1 F1 ρ1 H1 u e1 g1 h1 r1 p1 => ?_
    split at e1
    · rename_i hi
      obtain ⟨m, b, fs, dx, vs, ex, ev, er, es, hf, hH, hr, hF⟩ := ins_at h1 r1 hi
      subst ex ev
      simp only [getF, es] at e1
      split at e1
      · rename_i w hw
        · skip
          obtain ⟨u, l1, l2⟩ := look_zip C.finj hr hw
          rw [hn] at l1
          refine ⟨b, _, dx, _, u, rfl, hH, CC.cl, hno, l1, ?_⟩
          refine e2.bindS (U := fun y H2 => rAugZ op u y H2 fun z H3 => ∃ dx' fs', H3 b = some (.ins (M.cad c) dx' fs') ∧ fs'.length < 1000 ∧ D.nx σ (upd H3 b (.ins (M.cad c) dx' (putF n z fs')))) h1 (hs.g g1) e1 p1 fun y st2 F2 ρ2 H2 u2 e2 g2 h2 r2 p2 => ?_
          cases q4 : augOp op w y st2 with
          | none => rw [q4] at e2; cases e2
          | some a5 =>
            rw [q4] at e2
            refine rd_augOp op σ H2 _ F2 ρ2 st2 w y u u2 a5 h2 (RL.mono g2.sub g2.pre _ _ l2) r2 q4 (W := W) ?_
            cases a5 with
            | ex z st5 =>
              cases e2
              exact fun F5 ρ5 H5 cls d g5 h5 x5 => p2 F5 ρ5 H5 σ cls d g5 h5 (hs.g ((g1.trans g2).trans g5)) x5
            | ok z st5 =>
              intro F5 ρ5 H5 u5 g5 h5 r5
              simp only [R.bf] at e2
              split at e2
              · rename_i hi2
                simp only [Option.map_eq_some_iff] at e2
                obtain ⟨st6, e6, e7⟩ := e2
                subst e7
                have r1' := RL.mono (K := X.K) (g2.trans g5).sub (g2.trans g5).pre (.ref m) (.ref b) r1
                obtain ⟨m', b', fs', dx', vs', ex, ev, er', es', hf', hH', hr', hF'⟩ := ins_at h5 r1' hi2
                cases ex
                cases ev
                obtain ⟨hl, g6, h6⟩ := rd_setFl C (dx := dx') h5 er' es' hr' hF' r5 e6
                refine ⟨dx', _, hH', hl, ?_⟩
                rw [← hn]
                exact p2 F5 ρ5 _ σ (g5.trans g6) h6 (hs.g (((g1.trans g2).trans g5).trans g6))
              · cases e2
      · cases e1
    · cases e1
  · cases h3
end
end Z
end

section
/-! ZR: the theorem for statements. -/
namespace Z
open PySem PySem.Spec PyProof.Rows L2
section
variable {X : Cx} {g : SC} {M : Nm} {S : Sem} {W : WX} {k : Nat}
theorem swC_ok {g : SC} {v : Expr} {x : Str} {p : Pos} {env : Env} {l : Nat} (hs : env.scope = g.sc) : swapsWith v (some (.Name x p)) l env = pure (swC g v x p) := by
  have hb : env.blockKind = bkd g := by unfold Env.blockKind bkd; rw [hs]
  have hk : ∀ x, env.kindOf x = g.sc.names.lookup x := fun x => by unfold Env.kindOf; rw [hs]
  unfold swapsWith swC
  cases v <;> simp only [pure_bind, hb, hk] <;> rfl
theorem sole {t v : Expr} {l : Nat} {env : Env} : swapsWithSole [t] v l env = swapsWith v (some t) l env := by
  unfold swapsWithSole; rfl
theorem sw_sub {v o i : Expr} {p : Pos} {env : Env} {l : Nat} : swapsWith v (some (.Subscript o i p)) l env = pure false := by
  unfold swapsWith
  cases v <;> rfl
theorem sw_tup {v : Expr} {ts : List Expr} {k : Nat} {p : Pos} {env : Env} {l : Nat} : swapsWith v (some (.Tuple ts k p)) l env = pure false := by
  unfold swapsWith
  cases v <;> rfl
theorem st_name {v : Expr} {x : Str} {p : Pos} {env : Env} : swappedStores [.Name x p] v env = pure none := by
  unfold swappedStores; rfl
theorem st_sub {v o i : Expr} {p : Pos} {env : Env} : swappedStores [.Subscript o i p] v env = pure none := by
  unfold swappedStores; rfl
theorem asg_sub {o i : Expr} {pos : Pos} {env : Env} (h : isSlice i = false) : ∀ v, assign (.Subscript o i pos) env v = (do
      let ov ← holding [v] (eval o env)
      let iv ← holding [v, ov] (eval i env)
      standAt pos
      holding [v, ov, iv] (setItem ov iv v)
      release [v, ov, iv] []) := by
  intro v
  cases i <;> first | rfl | simp [isSlice] at h
theorem aug_sub {i : Expr} (h : isSlice i = false) : ∀ ov iv new, augStore i ov iv new = (do holding [new, ov, iv] (setItem ov iv new); release [new, ov, iv] []; pure .next) := by
  intro ov iv new
  cases i <;> first | rfl | simp [isSlice] at h
theorem asg_mkTup {gs : List MG} {vs : List LV} {φ : Slots} : asgG (.tp gs) (mkTup vs) φ = asgGs gs vs φ := by
  unfold mkTup
  split
  · rename_i ps h
    rw [unpv_eq h]
    simp only [asgG]
  · simp only [asgG]
theorem rd_par {i j : Nat} {ta : TA} {a b : ME} (h : RdA M X.K W ta (evEs S [a, b])) : RdS M X.K W (tPar i j ta) (exS S (.asg (.tp [.nm i, .nm j]) (.tup [a, b]))) := by
  intro D σ H φ F ρ st r hh hs e p
  simp only [exS, evE] at e
  unfold tPar
  cases q : evEs S [a, b] φ st with
  | none => rw [q] at e; cases e
  | some rs =>
    rw [q] at e
    cases rs with
    | ex x st1 =>
      simp only [Rs.bind, R.bf, Option.some.injEq] at e
      subst e
      exact h σ H _ φ F ρ st _ hh hs q fun F1 ρ1 H1 cls d g1 h1 x1 => p F1 ρ1 H1 σ cls d g1 h1 (hs.g g1) x1
    | ok vs st1 =>
      refine h σ H _ φ F ρ st _ hh hs q fun F1 ρ1 H1 us g1 h1 r1 => ?_
      have l := evEs_len q
      match vs, l, us, r1, e with
      | [x, y], _, us, r1, e =>
        simp only [RLs] at r1
        obtain ⟨v, r', e1, rx, w, r'', e2, ry, e3⟩ := r1
        subst e1 e2 e3
        refine ⟨v, w, rfl, ?_⟩
        simp only [Rs.bind] at e
        rw [if_pos (show ([x, y] : List LV).length ≤ line from (show 2 ≤ line by decide))] at e
        simp only [R.bf] at e
        rw [asg_mkTup] at e
        simp only [asgGs, asgG, Option.map_some, Option.some.injEq] at e
        subst e
        exact p F1 ρ1 H1 _ g1 h1 (((hs.g g1).set i rx).set j ry)
theorem rd_par3 {i j l : Nat} {ta : TA} {a b c : ME} (h : RdA M X.K W ta (evEs S [a, b, c])) : RdS M X.K W (tPar3 i j l ta) (exS S (.asg (.tp [.nm i, .nm j, .nm l]) (.tup [a, b, c]))) := by
  intro D σ H φ F ρ st r hh hs e p
  simp only [exS, evE] at e
  unfold tPar3
  cases q : evEs S [a, b, c] φ st with
  | none => rw [q] at e; cases e
  | some rs =>
    rw [q] at e
    cases rs with
    | ex x st1 =>
      simp only [Rs.bind, R.bf, Option.some.injEq] at e
      subst e
      exact h σ H _ φ F ρ st _ hh hs q fun F1 ρ1 H1 cls d g1 h1 x1 => p F1 ρ1 H1 σ cls d g1 h1 (hs.g g1) x1
    | ok vs st1 =>
      refine h σ H _ φ F ρ st _ hh hs q fun F1 ρ1 H1 us g1 h1 r1 => ?_
      have l := evEs_len q
      match vs, l, us, r1, e with
      | [x, y, z], _, us, r1, e =>
        simp only [RLs] at r1
        obtain ⟨v, r', e1, rx, w, r'', e2, ry, u, r3, e3, rz, e4⟩ := r1
        subst e1 e2 e3 e4
        refine ⟨v, w, u, rfl, ?_⟩
        simp only [Rs.bind] at e
        rw [if_pos (show ([x, y, z] : List LV).length ≤ line from (show 3 ≤ line by decide))] at e
        simp only [R.bf] at e
        rw [asg_mkTup] at e
        simp only [asgGs, asgG, Option.map_some, Option.some.injEq] at e
        subst e
        exact p F1 ρ1 H1 _ g1 h1 ((((hs.g g1).set i rx).set j ry).set _ rz)
/-- name = [..] within -/
theorem snd_comp (C : Cok X g M S W k) {live : Bool} {elt : ME} {tg : MG} {ik : IK} {src : List ME} {ifs : List MT} {own : List Nat} {elx : Expr} {gs : List Comprehension} {scope : Scope} {pos : Pos}
    (h : chkE g (.lc live elt tg ik src ifs own) (.ListComp elx gs scope pos) = true) {i : Nat} {y : Str} {py spos : Pos} (hi : g.N[i]? = some y) (hy : g.sc.names.lookup y = some .local)
    (hsw : swC g (.ListComp elx gs scope pos) y py = true) : SS X M S W (.asg (.nm i) (.lc live elt tg ik src ifs own)) (.Assign [.Name y py] (.ListComp elx gs scope pos) spos) := by
  unfold chkE at h
  simp only at h
  split at h
  · rename_i t it is ow hc ho
    split at h
    · rename_i xs hsrc
      simp only [Bool.and_eq_true, Bool.not_eq_true'] at h
      obtain ⟨⟨⟨⟨⟨⟨h1, hown⟩, h2⟩, h3⟩, h4⟩, h5⟩, hhot⟩ := h
      have B := blkOk_by h1
      have hgs : gs = [⟨t, it, is, 0⟩] := by
        unfold comps at hc
        split at hc
        · split at hc
          · rename_i ha
            simp only [Option.some.injEq, Prod.mk.injEq] at hc
            obtain ⟨e1, e2, e3⟩ := hc
            subst e1 e2 e3 ha; rfl
          · cases hc
        · cases hc
      subst hgs
      have how : ∀ (own : List Nat) (ow : List (Str × Nat)), ownOf g.N own = some ow → ow.map (·.2) = own := by
        intro own
        induction own with
        | nil => intro ow e; simp only [ownOf, Option.some.injEq] at e; subst e; rfl
        | cons i r ih =>
          intro ow e
          unfold ownOf at e
          split at e
          · simp only [Option.map_eq_some_iff] at e
            obtain ⟨ow', e1, e2⟩ := e
            subst e2
            simp [ih ow' e1]
          · cases e
      have hown2 := how own ow ho
      obtain ⟨wi, i1, i2, i3⟩ := iter_ok C hsrc (snds src g X W _ C h3) (tg := t)
      have B' : BlkOk X.N X.env.scope scope ow := by rw [C.N, C.sc]; exact B
      have sub : ∀ i ∈ slotsG tg, i ∈ own := fun i hi => by
        have := List.all_eq_true.mp hown i hi
        simpa using this
      obtain ⟨tg', hg1, hg2⟩ := all_PG (Xs := fun b : Blk => b.cx X scope) (K := X.K) (M := M) fun b => tgt (C.blk hhot scope b.s b.H b.A b.cl b.fp) tg t h2
      obtain ⟨te, he1, he2⟩ := all_PE (Xs := fun b : Blk => b.cx X scope) (K := X.K) (W := W0) (M := M) fun b => snd elt (g.blk scope) (b.cx X scope) W0 elx (C.blk hhot scope b.s b.H b.A b.cl b.fp) h5
      have tests : ∃ tt, (∀ b : Blk, PTs (b.cx X scope) is tt) ∧ RdTurn M X.K tt te fun φ st => evIf S ifs φ st fun st => R.bs (evE S elt φ st) fun y st => some (.ok [y] st) := by
        match ifs, h4 with
        | [], h4 =>
          simp only [chkIfs, List.isEmpty_iff] at h4
          subst h4
          exact ⟨tYes, fun b => pts_nil, turn_nil he2⟩
        | c :: cs, h4 =>
          match cs, is, h4 with
          | [], [e'], h4 =>
            simp only [chkIfs] at h4
            obtain ⟨tt, t1, t2⟩ := all_PT (Xs := fun b : Blk => b.cx X scope) (K := X.K) (W := W0) (M := M) fun b => sndT c (g.blk scope) (b.cx X scope) W0 e' (C.blk hhot scope b.s b.H b.A b.cl b.fp) h4
            exact ⟨tt, fun b => pts_one (t1 b), turn_one t2 he2⟩
          | [], [], h4 => simp [chkIfs] at h4
          | [], _ :: _ :: _, h4 => simp [chkIfs] at h4
          | _ :: _, _, h4 => simp [chkIfs] at h4
      obtain ⟨tt, t1, t2⟩ := tests
      refine ⟨_, ps_setLc (C.calm hhot) C.nd (by rw [C.N]; exact hi) (by rw [C.sc]; exact hy) (by rw [swC_ok C.sc, hsw]) i1 B' (fun s H A cl fp => hg1 ⟨s, H, A, cl, fp⟩) (fun s H A cl fp => t1 ⟨s, H, A, cl, fp⟩) (fun s H A cl fp => he1 ⟨s, H, A, cl, fp⟩) (fun x => i3 X.env x), ?_⟩
      rw [hown2]
      refine fun D σ H φ F ρ st r hh hs e p => rd_asg (m := .nm i) (rd_lc i2 hg2 sub t2) ?_ D σ H φ F ρ st r hh hs (by simpa only [exS] using e) p
      intro x v φ φ' σ F ρ H st Q hh hs r e q
      simp only [asgG, Option.some.injEq] at e
      subst e
      exact q _ (hs.set i r) fun vs hv => wipe_set (hv i (by simp [slotsG]))
    · cases h
  · cases h
/-- an assignment by its plain way -/
theorem snd_asg (C : Cok X g M S W k) {m : MG} {e : ME} {t v : Expr} {pos : Pos} (h1 : chkG g m t = true) (h2 : chkE g e v = true) (hs : swapsWithSole [t] v pos.line X.env = pure false) (hw : swappedStores [t] v X.env = pure none) (h3 : (assignEach [t] X.env).map (·.2) = [assign t X.env]) :
    SS X M S W (.asg m e) (.Assign [t] v pos) := by
  obtain ⟨tg, g1, g2⟩ := tgt C m t h1
  obtain ⟨te, e1, e2⟩ := snd e g X W v C h2
  exact ⟨_, ps_asg e1 g1 hs hw h3, fun D σ H φ F ρ st r hh hs e p => rd_asg e2 g2 D σ H φ F ρ st r hh hs (by simpa only [exS] using e) p⟩
theorem loc1_ok (C : Cok X g M S W k) {x : Str} (h : loc1 g x = true) : X.env.scope.names.lookup x = some .local := by
  rw [C.sc]
  exact of_decide_eq_true h
theorem nm_at {i : Nat} {x : Str} {p : Pos} (h : chkG g (.nm i) (.Name x p) = true) : g.N[i]? = some x := by
  simp only [chkG, Bool.and_eq_true, decide_eq_true_eq] at h
  exact h.1
theorem snd_way (C : Cok X g M S W k) {m : MG} {e : ME} {t v : Expr} {pos : Pos} (h1 : chkG g m t = true) (h2 : chkE g e v = true) (h : wayOk g m e t v = true) : SS X M S W (.asg m e) (.Assign [t] v pos) := by
  cases t with
  | Name x p =>
    simp only [wayOk, wayOf] at h
    by_cases hsw : swC g v x p = true
    · rw [if_pos hsw] at h
      simp only at h
      unfold isLc at h
      split at h
      · rename_i live elt tg ik src ifs own elx gs scope lpos
        cases m with
        | tp _ => simp [chkG] at h1
        | nm i =>
          refine snd_comp C h2 (nm_at h1) ?_ hsw
          simp only [swC, Bool.and_eq_true, beq_iff_eq] at hsw
          exact hsw.1.1.2
      · cases h
    · exact snd_asg C h1 h2 (by rw [sole, swC_ok C.sc]; simp [hsw]) st_name rfl
  | Tuple ts kk p =>
    have a1 : (assignEach [.Tuple ts kk p] X.env).map (·.2) = [assign (.Tuple ts kk p) X.env] := rfl
    cases v with
    | Tuple vs k' p' =>
      simp only [wayOk, wayOf] at h
      cases hsw : swp g ts vs with
      | none => simp [hsw] at h
      | some r =>
        have hw := swp_ok (p := p) (p' := p') (k := kk) (k' := k') C.sc hsw
        cases r with
        | none => exact snd_asg C h1 h2 (sole.trans sw_tup) hw a1
        | some ns =>
          simp only [hsw, Bool.and_eq_true, Bool.not_eq_true'] at h
          obtain ⟨hhot, h⟩ := h
          unfold parOk at h
          split at h
          · rename_i i j ma mb x px y py kt pt a b k2 pt2 heq1 heq2
            simp only [Expr.Tuple.injEq] at heq1 heq2
            obtain ⟨e1, e2, e3⟩ := heq1
            obtain ⟨e4, e5, e6⟩ := heq2
            subst e1 e2 e3 e4 e5 e6
            simp only [Bool.and_eq_true, decide_eq_true_eq] at h
            obtain ⟨⟨⟨hij, hx⟩, hy⟩, hn⟩ := h
            subst hn
            simp only [chkG, chkGs, Bool.and_eq_true, decide_eq_true_eq] at h1
            simp only [chkE] at h2
            obtain ⟨ta, p1, p2⟩ := (snds _ g X W _ C h2).pa
            exact ⟨_, ps_par (C.calm hhot) C.nd (by rw [C.N]; exact h1.2.1.1.1) (by rw [C.N]; exact h1.2.2.1.1.1) hij (loc1_ok C hx) (loc1_ok C hy) p1 hw (sole.trans sw_tup), rd_par p2⟩
          · rename_i i j l ma mb mc x px y py z pz kt pt a b c k2 pt2 heq1 heq2
            simp only [Expr.Tuple.injEq] at heq1 heq2
            obtain ⟨e1, e2, e3⟩ := heq1
            obtain ⟨e4, e5, e6⟩ := heq2
            subst e1 e2 e3 e4 e5 e6
            simp only [Bool.and_eq_true, decide_eq_true_eq] at h
            obtain ⟨⟨⟨⟨⟨⟨hij, hil⟩, hjl⟩, hx⟩, hy⟩, hz⟩, hn⟩ := h
            subst hn
            simp only [chkG, chkGs, Bool.and_eq_true, decide_eq_true_eq] at h1
            simp only [chkE] at h2
            obtain ⟨ta, p1, p2⟩ := (snds _ g X W _ C h2).pa
            exact ⟨_, ps_par3 (C.calm hhot) C.nd (by rw [C.N]; exact h1.2.1.1.1) (by rw [C.N]; exact h1.2.2.1.1.1) (by rw [C.N]; exact h1.2.2.2.1.1.1) hij hil hjl (loc1_ok C hx) (loc1_ok C hy) (loc1_ok C hz) p1 hw (sole.trans sw_tup), rd_par3 p2⟩
          · cases h
    | _ => exact snd_asg C h1 h2 (sole.trans sw_tup) (by unfold swappedStores; rfl) a1
  | _ => cases m <;> simp [chkG] at h1
theorem get_Z (hu : room2 X) : PGet X (rIxZ X.K) := by
  intro pins s σ H x y v u Q I rx ry h
  rcases h with h | h | h | h
  · obtain ⟨p, xs, i, z, rfl, rfl, hq, he, q⟩ := h
    cases rx
    obtain ⟨t, rfl⟩ := ry
    obtain ⟨its, r, pl, hz⟩ := I.list hq
    obtain ⟨j, h1, h2, h3, h4, h5⟩ := atI_get he
    obtain ⟨w, ew, rw'⟩ := r.get h2
    have hl := r.length
    have hn := line63
    have fin : EP X pins σ Q w s := ⟨z, H, I, rw', q⟩
    by_cases h0 : 0 ≤ i
    · have hj : i.toNat = j := by
        rw [seqIndex_of h0 h5] at h1
        exact Option.some.inj h1
      exact wpAny_getItem_list pl.isList h0 (by omega) (by rw [hj]; simpa using ew) fin
    · have hj : (i + (its.toArray.size : Int)).toNat = j := by
        rw [seqIndex_neg (by omega) h4] at h1
        rw [List.size_toArray, ← hl]
        exact Option.some.inj h1
      exact wpAny_getItem_list_neg pl.isList (by omega) (by rw [List.size_toArray] <;> omega) (by omega) (by rw [hj]; simpa using ew) fin
  · obtain ⟨p, xs, i, z, rfl, rfl, hq, he, q⟩ := h
    cases rx
    obtain ⟨t, rfl⟩ := ry
    obtain ⟨its, r, pl, hz⟩ := I.tuple hq
    obtain ⟨j, h1, h2, h3, h4, h5⟩ := atI_get he
    obtain ⟨w, ew, rw'⟩ := r.get h2
    have hl := r.length
    have hn := line63
    exact getItem_tuple (j := j) pl (by omega) (by omega) (by rw [List.size_toArray, ← hl]; exact h1) (by simpa using ew) ⟨z, H, I, rw', q⟩
  · obtain ⟨z, i, c, rfl, rfl, hz, he, q⟩ := h
    obtain ⟨t, rfl⟩ := rx
    obtain ⟨t', rfl⟩ := ry
    obtain ⟨j, h1, h2, h3, h4, h5⟩ := atI_get he
    have hl : z.cps.toList.length = z.length := by simp [Str.length]
    rw [hl] at h1 h4 h5
    have hn := line63
    exact getItem_str (c := c) (by
      have e1 : decide (i < -(2 ^ 63 : Int)) = false := decide_eq_false (by omega)
      have e2 : decide (i ≥ 2 ^ 63) = false := decide_eq_false (by omega)
      rw [e1, e2, Bool.or_false]) (by rw [h1]; simpa using h2) ⟨.str ⟨#[c]⟩, H, I.tok _, ⟨_, rfl⟩, q⟩
  · obtain ⟨a, z, e, g, q⟩ := h
    subst e
    obtain rfl : v = Value.ref a := rx
    exact d_getItem (by have h1 : X.A.units + 600 < cLine := hu; omega) I g ry fun w' s' I' r' => ⟨z, H, I', r', q⟩
theorem chk_pass {s : Stmt} (h : chkS g .pass s = true) : PS X s tNext := by
  unfold chkS at h
  split at h
  · exact ps_pass
  · exact ps_doc
  · cases h
theorem noSwapE {x : Expr} {l : Nat} {env : Env} (h : isComp x = false) : swapsWith x none l env = pure false := noSwap h
mutual
theorem sndS : ∀ (m : MS) (M : Nm) (g : SC) (X : Cx) (W : WX) (s : Stmt), Cok X g M S W k → chkS g m s = true → SS X M S W m s
  | .pass, M, g, X, W, s, C, h => ⟨tNext, chk_pass h, fun D σ H φ F ρ st r hh hs e p => by
    simp only [exS, Option.some.injEq] at e
    subst e
    exact p F ρ H σ (G.refl _ _ _) hh hs⟩
  | .ex e, M, g, X, W, s, C, h => by
    unfold chkS at h
    split at h
    · simp only [Bool.and_eq_true, Bool.not_eq_true'] at h
      obtain ⟨te, e1, e2⟩ := snd e g X W _ C h.2
      exact ⟨_, ps_expr e1 (noSwapE h.1), fun D σ H φ F ρ st r hh hs e p => rd_drop e2 D σ H φ F ρ st r hh hs (by simpa only [exS] using e) p⟩
    · cases h
  | .asg m e, M, g, X, W, s, C, h => by
    unfold chkS at h
    split at h
    · simp only [Bool.and_eq_true] at h
      exact snd_way C h.1.1 h.1.2 h.2
    · cases h
  | .asgI a i e, M, g, X, W, s, C, h => by
    unfold chkS at h
    split at h
    · simp only [Bool.and_eq_true, Bool.not_eq_true'] at h
      obtain ⟨⟨⟨h1, h2⟩, h3⟩, h4⟩ := h
      obtain ⟨ta, a1, a2⟩ := snd a g X W _ C h2
      obtain ⟨ti, i1, i2⟩ := snd i g X W _ C h3
      obtain ⟨te, e1, e2⟩ := snd e g X W _ C h4
      refine ⟨_, ps_asg e1 (pg_sub a1 i1 (set_Z C.un) (asg_sub h1)) (sole.trans sw_sub) st_sub rfl, ?_⟩
      intro D σ H φ F ρ st r hh hs e p
      simp only [exS] at e
      refine e2.bindS (U := fun x H1 => gSub ta ti rSetZ x σ H1 D.nx) hh hs e p fun v st1 F1 ρ1 H1 u e1 g1 h1 r1 p1 => ?_
      refine a2.bindS (U := fun o H2 => ti σ H2 fun i H3 => rSetZ o i u H3 fun H4 => D.nx σ H4) h1 (hs.g g1) e1 p1 fun x st2 F2 ρ2 H2 o e2 g2 h2 r2 p2 => ?_
      refine i2.bindS (U := fun i H3 => rSetZ o i u H3 fun H4 => D.nx σ H4) h2 (hs.g (g1.trans g2)) e2 p2 fun y st3 F3 ρ3 H3 w e3 g3 h3 r3 p3 => ?_
      simp only [Option.map_eq_some_iff] at e3
      obtain ⟨st4, e4, e5⟩ := e3
      subst e5
      exact rd_setI h3 (RL.mono g3.sub g3.pre _ _ r2) r3 (RL.mono (g2.trans g3).sub (g2.trans g3).pre _ _ r1) e4 fun H4 g4 h4 => p3 F3 ρ3 H4 σ g4 h4 ((hs.g (g1.trans g2)).g (g3.trans g4))
    · cases h
  | .aug i op e, M, g, X, W, s, C, h => by
    unfold chkS at h
    split at h
    · simp only [Bool.and_eq_true, decide_eq_true_eq] at h
      obtain ⟨⟨⟨h1, h2⟩, h3⟩, h4⟩ := h
      subst h1
      obtain ⟨hl, hf⟩ := C.loc h3
      obtain ⟨te, e1, e2⟩ := snd e g X W _ C h4
      exact ⟨_, ps_aug C.nd (by rw [C.N]; exact h2) hl e1 (op_augZ op) hf, fun D σ H φ F ρ st r hh hs e p => rd_augS e2 D σ H φ F ρ st r hh hs (by simp only [exS] at e; exact e) p⟩
    · cases h
  | .augI a i op e, M, g, X, W, s, C, h => by
    unfold chkS at h
    split at h
    · simp only [Bool.and_eq_true, decide_eq_true_eq, Bool.not_eq_true'] at h
      obtain ⟨⟨⟨⟨h0, h1⟩, h2⟩, h3⟩, h4⟩ := h
      subst h0
      obtain ⟨ta, a1, a2⟩ := snd a g X W _ C h2
      obtain ⟨ti, i1, i2⟩ := snd i g X W _ C h3
      obtain ⟨te, e1, e2⟩ := snd e g X W _ C h4
      refine ⟨_, ps_augS a1 i1 (get_Z C.un) e1 (op_augZ op) (set_Z C.un) (aug_sub h1), ?_⟩
      intro D σ H φ F ρ st r hh hs e p
      simp only [exS] at e
      refine a2.bindS (U := fun o H1 => ti σ H1 fun i H2 => rIxZ X.K o i H2 fun x H3 => te σ H3 fun y H4 => rAugZ op x y H4 fun z H5 => rSetZ o i z H5 fun H6 => D.nx σ H6) hh hs e p fun x st1 F1 ρ1 H1 o e1 g1 h1 r1 p1 => ?_
      refine i2.bindS (U := fun i H2 => rIxZ X.K o i H2 fun x H3 => te σ H3 fun y H4 => rAugZ op x y H4 fun z H5 => rSetZ o i z H5 fun H6 => D.nx σ H6) h1 (hs.g g1) e1 p1 fun y st2 F2 ρ2 H2 w e2' g2 h2 r2 p2 => ?_
      cases q : getI x y st2 with
      | none => rw [q] at e2'; cases e2'
      | some a3 =>
        rw [q] at e2'
        refine rd_getI σ H2 _ F2 ρ2 st2 x y o w a3 h2 (RL.mono g2.sub g2.pre _ _ r1) r2 q (W := W) ?_
        cases a3 with
        | ex z st3 =>
          cases e2'
          exact fun F3 ρ3 H3 cls d g3 h3 x3 => p2 F3 ρ3 H3 σ cls d g3 h3 (hs.g ((g1.trans g2).trans g3)) x3
        | ok vv st3 =>
          intro F3 ρ3 H3 u g3 h3 r3
          refine e2.bindS (U := fun y H4 => rAugZ op u y H4 fun z H5 => rSetZ o w z H5 fun H6 => D.nx σ H6) h3 (hs.g ((g1.trans g2).trans g3)) e2' (p2.g g3) fun ww st4 F4 ρ4 H4 u4 e4 g4 h4 r4 p4 => ?_
          cases q4 : augOp op vv ww st4 with
          | none => rw [q4] at e4; cases e4
          | some a5 =>
            rw [q4] at e4
            refine rd_augOp op σ H4 _ F4 ρ4 st4 vv ww u u4 a5 h4 (RL.mono g4.sub g4.pre _ _ r3) r4 q4 (W := W) ?_
            cases a5 with
            | ex z st5 =>
              cases e4
              exact fun F5 ρ5 H5 cls d g5 h5 x5 => p4 F5 ρ5 H5 σ cls d g5 h5 (hs.g ((((g1.trans g2).trans g3).trans g4).trans g5)) x5
            | ok z st5 =>
              intro F5 ρ5 H5 u5 g5 h5 r5
              simp only [R.bf, Option.map_eq_some_iff] at e4
              obtain ⟨st6, e6, e7⟩ := e4
              subst e7
              have ga := (g2.trans g3).trans (g4.trans g5)
              have gb := g3.trans (g4.trans g5)
              exact rd_setI h5 (RL.mono ga.sub ga.pre _ _ r1) (RL.mono gb.sub gb.pre _ _ r2) r5 e6 fun H6 g6 h6 => p4 F5 ρ5 H6 σ (g5.trans g6) h6 (hs.g ((g1.trans ga).trans g6))
    · cases h
  | .iff c a b, M, g, X, W, s, C, h => by
    unfold chkS at h
    split at h
    · simp only [Bool.and_eq_true] at h
      obtain ⟨tc, c1, c2⟩ := sndT c g X W _ C h.1.1
      obtain ⟨ta, a1, a2⟩ := sndSs a M g X W _ C h.1.2
      obtain ⟨tb, b1, b2⟩ := sndSs b M g X W _ C h.2
      exact ⟨_, ps_if c1 a1 b1, fun D σ H φ F ρ st r hh hs e p => rd_if c2 a2 b2 D σ H φ F ρ st r hh hs (by simpa only [exS] using e) p⟩
    · cases h
  | .whl c a, M, g, X, W, s, C, h => by
    unfold chkS at h
    split at h
    · simp only [Bool.and_eq_true] at h
      obtain ⟨tc, c1, c2⟩ := sndT c g X W _ C h.1
      obtain ⟨ta, a1, a2⟩ := sndSs a M g X W _ C h.2
      exact ⟨_, ps_while C.pass c1 a1, fun D σ H φ F ρ st r hh hs e p => rd_while c2 a2 D σ H φ F ρ st r hh hs (by simpa only [exS] using e) p⟩
    · cases h
  | .for_ tg ik src a, M, g, X, W, s, C, h => by
    unfold chkS at h
    split at h
    · rename_i t it a' pos
      split at h
      · rename_i xs hsrc
        simp only [Bool.and_eq_true, Bool.not_eq_true'] at h
        obtain ⟨tg', g1, g2⟩ := tgt C tg t h.1.1.1
        obtain ⟨wi, i1, i2, i3⟩ := iter_ok C hsrc (snds src g X W _ C h.1.1.2) (tg := t)
        obtain ⟨ta, a1, a2⟩ := sndSs a M g X W _ C h.1.2
        exact ⟨_, ps_for C.pass (C.calm h.2) i1 g1 a1 (fun x => i3 X.env x), rd_for i2 g2 a2⟩
      · cases h
    · cases h
  | .forW tg src a, M, g, X, W, s, C, h => by
    unfold chkS at h
    split at h
    · rename_i t it a' pos
      simp only [Bool.and_eq_true, Bool.not_eq_true'] at h
      obtain ⟨⟨⟨⟨h1, h2⟩, h3⟩, h4⟩, h5⟩ := h
      obtain ⟨tg', g1, g2⟩ := tgt C tg t h1
      obtain ⟨tl, i1, i2⟩ := snd src g X W _ C h2
      obtain ⟨ta, a1, a2⟩ := sndSs a M g X W _ C h3
      exact ⟨_, ps_for C.pass (C.calm h5) (pi_list i1) g1 a1 (fun x => noFold h4 X.env x), rd_forW i2 g2 a2⟩
    · cases h
  | .ret e, M, g, X, W, s, C, h => by
    unfold chkS at h
    split at h
    · obtain ⟨te, e1, e2⟩ := snd e g X W _ C h
      exact ⟨_, ps_ret e1, fun D σ H φ F ρ st r hh hs e p => rd_ret e2 D σ H φ F ρ st r hh hs (by simpa only [exS] using e) p⟩
    · cases h
  | .retN, M, g, X, W, s, C, h => by
    unfold chkS at h
    split at h
    · refine ⟨_, ps_retN, fun D σ H φ F ρ st r hh hs e p => ?_⟩
      simp only [exS, Option.some.injEq] at e
      subst e
      exact p F ρ H .non (G.refl _ _ _) hh (by simp only [RL, RP])
    · cases h
  | .fset c a f e, M, g, X, W, s, C, h => by
    unfold chkS at h
    split at h
    · simp only [Bool.and_eq_true, decide_eq_true_eq] at h
      obtain ⟨⟨⟨h1, h2⟩, h3⟩, h4⟩ := h
      exact ss_fset C h1 h2 (snd a g X W _ C h3) (snd e g X W _ C h4)
    · cases h
  | .faug c a f op e, M, g, X, W, s, C, h => by
    unfold chkS at h
    split at h
    · simp only [Bool.and_eq_true, decide_eq_true_eq] at h
      obtain ⟨⟨⟨⟨h0, h1⟩, h2⟩, h3⟩, h4⟩ := h
      subst h0
      exact ss_faug C h1 h2 (snd a g X W _ C h3) (snd e g X W _ C h4)
    · cases h
  | .raise c es, M, g, X, W, s, C, h => by
    unfold chkS at h
    split at h
    · split at h
      · rename_i ei hei
        simp only [Bool.and_eq_true, decide_eq_true_eq, Bool.not_eq_true'] at h
        obtain ⟨⟨⟨⟨h1, h2⟩, h3⟩, h4⟩, h5⟩ := h
        exact ss_raise C h5 hei h1 h2 (snds es g X W _ C h3) h4
      · cases h
    · cases h
  | .tryE body c slot suite, M, g, X, W, s, C, h => by
    unfold chkS at h
    split at h
    · split at h
      · rename_i i ei hei
        simp only [Bool.and_eq_true, decide_eq_true_eq, Bool.not_eq_true'] at h
        obtain ⟨⟨⟨⟨⟨⟨⟨h1, h2⟩, h3⟩, h4⟩, h5⟩, h6⟩, h7⟩, h8⟩ := h
        exact ss_tryAs C h5 h6 hei h1 h2 h3 h4 (fun X' W' C' => sndSs body M g X' W' _ C' h7) (fun X' M' C' => sndSs suite M' (g.suite i) X' W0 _ C' h8)
      · cases h
    · cases h
  | .brk, M, g, X, W, s, C, h => by
    unfold chkS at h
    split at h
    · refine ⟨_, ps_break, fun D σ H φ F ρ st r hh hs e p => ?_⟩
      simp only [exS, Option.some.injEq] at e
      subst e
      exact p F ρ H σ (G.refl _ _ _) hh hs
    · cases h
  | .cnt, M, g, X, W, s, C, h => by
    unfold chkS at h
    split at h
    · refine ⟨_, ps_continue, fun D σ H φ F ρ st r hh hs e p => ?_⟩
      simp only [exS, Option.some.injEq] at e
      subst e
      exact p F ρ H σ (G.refl _ _ _) hh hs
    · cases h
theorem sndSs : ∀ (ms : List MS) (M : Nm) (g : SC) (X : Cx) (W : WX) (ss : List Stmt), Cok X g M S W k → chkSs g ms ss = true → SSs X M S W ms ss
  | [], M, g, X, W, ss, C, h => by
    simp only [chkSs, List.isEmpty_iff] at h
    subst h
    refine ⟨_, pss_nil, fun D σ H φ F ρ st r hh hs e p => ?_⟩
    simp only [exSs, Option.some.injEq] at e
    subst e
    exact p F ρ H σ (G.refl _ _ _) hh hs
  | m :: ms, M, g, X, W, [], C, h => by simp [chkSs] at h
  | m :: ms, M, g, X, W, s :: ss, C, h => by
    simp only [chkSs, Bool.and_eq_true] at h
    obtain ⟨t, h1, h2⟩ := sndS m M g X W s C h.1
    obtain ⟨u, h3, h4⟩ := sndSs ms M g X W ss C h.2
    exact ⟨_, pss_cons h1 h3, fun D σ H φ F ρ st r hh hs e p => rd_seq h2 h4 D σ H φ F ρ st r hh hs (by simp only [exSs] at e; exact e) p⟩
end
end
end Z
end

section
/-! ZSa: the head's facts with one more question. -/
namespace Z
open PySem PySem.Spec PyProof.Rows L2
/-- He.obsD with a question of one's own -/
def obsZ (fa : List He.Fa) (fn : List He.DefD) (ck : PySem.W.Frag → Bool) (K : PySem.W.Frag) : He.AlD := ((He.obsD fa fn K).1 && ck K, (He.obsD fa fn K).2)
def SaysZ (fa : List He.Fa) (fn : List He.DefD) (ck : PySem.W.Frag → Bool) (K : PySem.W.Frag) : Prop := obsZ fa fn ck K = He.valD fn
abbrev AlZ : Type := He.AlD × List (Option (List (Option (Str × Int))))
/-- with the keys of the module's dicts -/
def obsZT (fa : List He.Fa) (fn : List He.DefD) (ck : PySem.W.Frag → Bool) (ts : List (Str × List Str)) (K : PySem.W.Frag) : AlZ := (obsZ fa fn ck K, ts.map fun t => He.dicW K (He.ga K t.1))
def valZT (fn : List He.DefD) (ts : List (Str × List Str)) (w : World) : AlZ := (He.valD fn, ts.map fun t => some (He.keysIn w.params t.2))
def SaysZT (fa : List He.Fa) (fn : List He.DefD) (ck : PySem.W.Frag → Bool) (ts : List (Str × List Str)) (w : World) (K : PySem.W.Frag) : Prop := obsZT fa fn ck ts K = valZT fn ts w
def obsZG (n : Nat) (fa : List He.Fa) (fn : List He.DefD) (ck : PySem.W.Frag → Bool) (ts : List (Str × List Str)) (get : Addr → Option Obj) : AlZ := obsZT fa fn ck ts (He.frG get (He.asD get n))
def hookZ (n : Nat) (fa : List He.Fa) (fn : List He.DefD) (ck : PySem.W.Frag → Bool) (ts : List (Str × List Str)) : PySem.W.Hook where
  α := AlZ
  obs := fun st => obsZG n fa fn ck ts st.heap.get?
  val := fun w => valZT fn ts w
  says := fun w hp => ∃ K : PySem.W.Frag, K.In hp ∧ SaysZT fa fn ck ts w K
  of := fun _ _ e => ⟨_, He.frG_in, e⟩
  keeps := fun _ _ _ ⟨K, hK, c⟩ kp => ⟨K, PySem.W.Frag.In.keeps hK kp, c⟩
theorem obsZG_eq {n : Nat} {fa : List He.Fa} {fn : List He.DefD} {ck : PySem.W.Frag → Bool} {ts : List (Str × List Str)} {get : Addr → Option Obj} {st : Shared} (h : ∀ a, get a = st.heap.get? a) : obsZG n fa fn ck ts get = (hookZ n fa fn ck ts).obs st := by
  obtain rfl : get = st.heap.get? := funext h
  rfl
theorem SaysZT.z {fa : List He.Fa} {fn : List He.DefD} {ck : PySem.W.Frag → Bool} {ts : List (Str × List Str)} {w : World} {K : PySem.W.Frag} (c : SaysZT fa fn ck ts w K) : SaysZ fa fn ck K := congrArg (fun z : AlZ => z.1) c
theorem SaysZT.dt {fa : List He.Fa} {fn : List He.DefD} {ck : PySem.W.Frag → Bool} {ts : List (Str × List Str)} {w : World} {K : PySem.W.Frag} (c : SaysZT fa fn ck ts w K) {t : Str × List Str} (ht : t ∈ ts) : ∃ es n, L2.KDict K w (He.ga K t.1) es n := by
  have e : ts.map (fun t => He.dicW K (He.ga K t.1)) = ts.map fun t => some (He.keysIn w.params t.2) := congrArg (fun z : AlZ => z.2) c
  obtain ⟨i, hi, et⟩ := List.mem_iff_getElem.mp ht
  have e2 := congrArg (fun l : List _ => l[i]?) e
  simp only [List.getElem?_map, List.getElem?_eq_getElem hi, et, Option.map_some, Option.some.injEq] at e2
  exact He.dicW_ok e2
section
variable {fa : List He.Fa} {fn : List He.DefD} {ck : PySem.W.Frag → Bool} {K : PySem.W.Frag}
theorem SaysZ.d (c : SaysZ fa fn ck K) : He.SaysD fa fn K := by
  have h1 : ((He.obsD fa fn K).1 && ck K) = true := congrArg (fun z : He.AlD => z.1) c
  have h2 : (obsZ fa fn ck K).2 = (He.valD fn).2 := congrArg (fun z : He.AlD => z.2) c
  exact Prod.ext (Bool.and_eq_true_iff.mp h1).1 h2
theorem SaysZ.own (c : SaysZ fa fn ck K) : ck K = true := by
  have h1 : ((He.obsD fa fn K).1 && ck K) = true := congrArg (fun z : He.AlD => z.1) c
  exact (Bool.and_eq_true_iff.mp h1).2
end
end Z
end

section
/-! ZSb: what the written part says of error classes, decided. -/
namespace Z
open PySem PySem.Spec PyProof.Rows L2
def oexB (K : PySem.W.Frag) (C : Addr) : Bool := (match K.lookup C with
    | some ⟨.type t, _, .cls cd, sl⟩ => decide (t = "type") && (match cd.mro, sl.toList with
      | .ref C' :: bm, [_, _, _, _, some (.builtin n), _] => decide (C' = C) && decide (n = "ValueError.__new__") && !cd.hasDel && cd.hasDict && PySem.HandSPX.refsVE bm
      | _, _ => false)
    | _ => false) && decide (PySem.W.findIn K (.ref C) "__setattr__" = some (some (.builtin "object.__setattr__"))) && decide (PySem.W.subIn K (.ref C) (.type "BaseException") = some true) && decide (PySem.W.typeIn K (.ref C) = some (.type "type")) && PySem.W.keepIn K (.ref C)
theorem oexB_ok {K : PySem.W.Frag} {C : Addr} (h : oexB K C = true) : OexC K C := by
  unfold oexB at h
  simp only [Bool.and_eq_true, decide_eq_true_eq] at h
  obtain ⟨⟨⟨⟨h1, h2⟩, h3⟩, h4⟩, h5⟩ := h
  refine ⟨?_, h2, h3, h4, h5⟩
  split at h1
  · rename_i t dd cd sl hl
    simp only [Bool.and_eq_true, decide_eq_true_eq] at h1
    obtain ⟨ht, h1⟩ := h1
    split at h1
    · rename_i C' bm k0 k1 k2 k3 n k5 hm hs
      simp only [Bool.and_eq_true, decide_eq_true_eq, Bool.not_eq_true'] at h1
      obtain ⟨⟨⟨⟨e1, e2⟩, e3⟩, e4⟩, e5⟩ := h1
      subst ht e1 e2
      obtain ⟨c1, c2, c3, c4, c5, c6, c7, c8, c9, c10, c11⟩ := cd
      simp only at hm e3 e4
      subst hm e3 e4
      have hs' : sl = #[k0, k1, k2, k3, some (.builtin "ValueError.__new__"), k5] := by
        apply Array.ext'
        rw [hs]
      subst hs'
      exact ⟨c1, c5, c4, c2, bm, c7, c8, c9, c10, dd, k0, k1, k2, k3, k5, hl, e5⟩
    · cases h1
  · cases h1
def eccB (K : PySem.W.Frag) (D : Addr) : Bool :=
  decide (PySem.W.findIn K (.ref D) "__getattribute__" = some (some (.builtin "BaseException.__getattribute__"))) && decide (PySem.W.findIn K (.ref D) "__getattr__" = some none) && decide (PySem.W.subIn K (.ref D) (.type "BaseException") = some true) && PySem.W.hasDictIn K D &&
  decide (PySem.W.findIn K (.ref D) "__class__" = some (some (.builtin "object.__class__"))) && decide (PySem.W.specialIn K (.builtin "object.__class__") "__get__" = some (some (.builtin "getset_descriptor.__get__"))) && decide (PySem.W.takesIn K (.builtin "object.__class__") = some true) && decide (PySem.W.mroIn K D (.type "object") = some true)
theorem eccB_ok {K : PySem.W.Frag} {D : Addr} (h : eccB K D = true) : ExcC K D ∧ XfC K D := by
  unfold eccB at h
  simp only [Bool.and_eq_true, decide_eq_true_eq] at h
  obtain ⟨⟨⟨⟨⟨⟨⟨h1, h2⟩, h3⟩, h4⟩, h5⟩, h6⟩, h7⟩, h8⟩ := h
  exact ⟨⟨h1, h2, h3, h4, h5, h6, h7, h8⟩, ⟨h1, h2, h3, h4⟩⟩
end Z
end

section
/-! ZSc: names of fields. -/
namespace Z
open PySem PySem.Spec PyProof.Rows L2
def fnmOf (l : List Str) (f : Nat) : Str := match l[f]? with
  | some x => x
  | none => mkS (List.replicate (f + 1) 0)
def fnamesOk (l : List Str) : Bool := decide l.Nodup && l.all fun x => x.cps.toList.any fun c => c != 0
theorem fnmOf_some {l : List Str} {f : Nat} {x : Str} (h : l[f]? = some x) : fnmOf l f = x := by
  unfold fnmOf; rw [h]
theorem fnmOf_inj {l : List Str} (h : fnamesOk l = true) : ∀ f f', fnmOf l f = fnmOf l f' → f = f' := by
  simp only [fnamesOk, Bool.and_eq_true, decide_eq_true_eq, List.all_eq_true] at h
  obtain ⟨nd, hz⟩ := h
  have clash : ∀ (x : Str) (n : Nat), x ∈ l → x ≠ mkS (List.replicate n 0) := fun x n hx e => by
    obtain ⟨c, hc, hne⟩ := List.any_eq_true.mp (hz x hx)
    rw [e, mkS_cps] at hc
    have := List.eq_of_mem_replicate hc
    subst this
    simp at hne
  intro f f' e
  unfold fnmOf at e
  cases h1 : l[f]? with
  | some x =>
    rw [h1] at e
    cases h2 : l[f']? with
    | some y =>
      rw [h2] at e
      simp only at e
      subst e
      obtain ⟨a1, a2⟩ := List.getElem?_eq_some_iff.mp h1
      obtain ⟨b1, b2⟩ := List.getElem?_eq_some_iff.mp h2
      exact (List.getElem_inj nd).mp (a2.trans b2.symm)
    | none =>
      rw [h2] at e
      exact absurd e (clash x _ (List.mem_of_getElem? h1))
  | none =>
    rw [h1] at e
    cases h2 : l[f']? with
    | some y =>
      rw [h2] at e
      exact absurd e.symm (clash y _ (List.mem_of_getElem? h2))
    | none =>
      rw [h2] at e
      have := congrArg List.length (mkS_inj e)
      simp at this
      exact this
end Z
end

section
/-! ZSd: a program's text with its error classes. -/
namespace Z
open PySem PySem.Spec PyProof.Rows L2
/-- an error class: fields from parameters in the order of the stores; its __init__ with its names, if it has one -/
structure EE where
  name : Str
  np : Nat
  fl : List (Nat × Nat)
  ini : Option (List Str × He.DefD)
structure DD where
  md : MD
  N : List Str
  d : He.DefD
structure Txt where
  defs : List DD
  consts : List (Str × PV)
  fnames : List Str := []
  errs : List EE := []
  subs : List (List Bool) := []
  hots : List Nat := []
  cls : List CI := []
  tabs : List (Str × List Sg) := []
  dtabs : List (Str × List (Sg × PV)) := []
def EE.ei (e : EE) : EI := ⟨e.name, e.np, e.fl⟩
def Txt.sub (t : Txt) (c c' : Nat) : Bool := ((t.subs[c]?).bind (·[c']?)).getD false
def Txt.xin (t : Txt) (c : Nat) : Option (Nat × List (Nat × Nat)) := (t.errs[c]?).map fun e => (e.np, e.fl)
def Txt.ead (t : Txt) (K : PySem.W.Frag) (c : Nat) : Addr := match t.errs[c]? with
  | some e => He.ga K e.name
  | none => 0
def Txt.cad (t : Txt) (K : PySem.W.Frag) (c : Nat) : Addr := match t.cls[c]? with
  | some e => He.ga K e.name
  | none => 0
def Txt.nm (t : Txt) (K : PySem.W.Frag) : Nm := { cad := t.cad K, ead := t.ead K, fnm := fnmOf t.fnames, cur := none }
def Txt.tab (t : Txt) : Tab := { cls := t.cls, defs := t.defs.map fun q => (if q.d.at_.2.isNone then some q.d.at_.1 else none, q.md.ar), glbs := t.consts.map (·.1), fnames := t.fnames, errs := t.errs.map EE.ei, hots := t.hots, tabs := t.tabs.map (·.1), dtabs := t.dtabs.map (·.1) }
def Txt.prog (t : Txt) (shr : Nat → Bool) (wf : Nat) : Prog := { defs := t.defs.map (·.md), glb := fun i => (t.consts[i]?).map (·.2), shr := shr, wf := wf, nf := t.fnames.length, xin := t.xin, sub := t.sub, tab := fun i => (t.tabs[i]?).map (·.2), dtab := fun i => (t.dtabs[i]?).map (·.2) }
/-- what K is asked of the error classes -/
def errB (K : PySem.W.Frag) (t : Txt) (e : EE) : Bool := eccB K (He.ga K e.name) && e.fl.all (fun q => decide (PySem.W.findIn K (.ref (He.ga K e.name)) (fnmOf t.fnames q.1) = some none)) && (match e.ini with
  | none => PySem.W.excIn K (He.ga K e.name) He.veBase "ValueError.__new__" && PySem.W.keepIn K (.ref (He.ga K e.name)) && decide (PySem.W.typeIn K (.ref (He.ga K e.name)) = some (.type "type"))
  | some _ => oexB K (He.ga K e.name) && decide (PySem.W.findIn K (.ref (He.ga K e.name)) "__init__" = some (some (.ref (He.ma K (He.ga K e.name) "__init__")))) && decide (PySem.W.typeIn K (.ref (He.ma K (He.ga K e.name) "__init__")) = some (.type "function")))
def subB (K : PySem.W.Frag) (t : Txt) : Bool := (List.range t.errs.length).all fun c => (List.range t.errs.length).all fun c' =>
  decide (PySem.W.exmOne K (.ref (t.ead K c)) (.ref (t.ead K c')) = some (t.sub c c')) && decide (PySem.W.kitOne K (.ref (t.ead K c)) (.ref (t.ead K c')) = some (t.sub c c'))
/-- what K is asked of the classes -/
def methB (K : PySem.W.Frag) (t : Txt) (C : Addr) (q : Str × Nat × Nat) : Bool := match t.defs[q.2.1]? with
  | some d => decide (d.md.ar = q.2.2) && decide (PySem.W.findIn K (.ref C) q.1 = some (some (.ref (He.fAd K d.d.at_)))) && PySem.W.isFn K (.ref (He.fAd K d.d.at_)) && PySem.W.keepIn K (.ref (He.fAd K d.d.at_)) &&
    (!decide (q.1 = ("__init__" : Str)) || (PySem.W.makesIn K C && PySem.W.keepIn K (.ref C)))
  | none => false
def clsB (K : PySem.W.Frag) (t : Txt) (ci : CI) : Bool := (He.Fa.cls ci.name).ok K && ci.fields.all (fun f => decide (PySem.W.findIn K (.ref (He.ga K ci.name)) (fnmOf t.fnames f) = some none)) && ci.meths.all (methB K t (He.ga K ci.name))
/-- texts, one behind the other -/
def txsB : List Sg → List Value → Bool
  | [], [] => true
  | p :: ps, .str s _ :: vs => decide (s = mkS p) && okS p && txsB ps vs
  | _, _ => false
def tabB (K : PySem.W.Frag) (q : Str × List Sg) : Bool := (He.Fa.glo q.1).ok K && (match K.lookup (He.ga K q.1) with
  | some o => decide (o.cls = .type "tuple") && decide (o.dict = none) && (match o.data with
    | .seq its _ => decide (its.size ≤ 1000) && txsB q.2 its.toList
    | _ => false)
  | none => false)
/-- a value of a module's dict -/
def dvB : PV → Value → Bool
  | .int i, .int j _ => decide (i = j)
  | .str s, .str x _ => decide (x = mkS s) && okS s
  | _, _ => false
theorem dvB_ok {K : PySem.W.Frag} {p : PV} {u : Value} (h : dvB p u = true) : ∃ v, L2.RelV v u ∧ RP K (fun _ => none) p v := by
  cases p <;> cases u <;> simp only [dvB, Bool.and_eq_true, decide_eq_true_eq, Bool.false_eq_true] at h
  · subst h; exact ⟨.int _, ⟨_, rfl⟩, by simp only [RP]⟩
  · obtain ⟨h1, h2⟩ := h
    subst h1
    exact ⟨.str _, ⟨_, rfl⟩, by simp only [RP, true_and]; exact h2⟩
def dtabB (K : PySem.W.Frag) (q : Str × List (Sg × PV)) : Bool := (He.Fa.glo q.1).ok K && q.2.all fun kv => match PySem.W.nsIn K (He.ga K q.1) (mkS kv.1) with
  | some (some u) => dvB kv.2 u
  | _ => false
/-- the keys of the module's dicts -/
def Txt.dts (t : Txt) : List (Str × List Str) := t.dtabs.map fun q => (q.1, q.2.map fun kv => mkS kv.1)
def Txt.ck (t : Txt) (K : PySem.W.Frag) : Bool := t.errs.all (errB K t) && subB K t && t.cls.all (clsB K t) && t.tabs.all (tabB K) && t.dtabs.all (dtabB K)
theorem txsB_ok : ∀ {ps : List Sg} {vs : List Value}, txsB ps vs = true → Vals ((ps.map mkS).map V.str) vs ∧ ∀ p ∈ ps, okS p = true
  | [], [], _ => ⟨.nil, fun p hp => by simp at hp⟩
  | [], _ :: _, h => by simp [txsB] at h
  | p :: ps, [], h => by simp [txsB] at h
  | p :: ps, v :: vs, h => by
    cases v <;> simp only [txsB, Bool.and_eq_true, decide_eq_true_eq, Bool.false_eq_true] at h
    obtain ⟨⟨h1, h2⟩, h3⟩ := h
    obtain ⟨i1, i2⟩ := txsB_ok h3
    subst h1
    refine ⟨.cons ⟨_, rfl⟩ i1, fun q hq => ?_⟩
    rcases List.mem_cons.mp hq with z | z
    · rw [z]; exact h2
    · exact i2 q z
theorem subB_ok {K : PySem.W.Frag} {t : Txt} (h : subB K t = true) {c c' : Nat} (hc : c < t.errs.length) (hc' : c' < t.errs.length) :
    PySem.W.exmOne K (.ref (t.ead K c)) (.ref (t.ead K c')) = some (t.sub c c') ∧ PySem.W.kitOne K (.ref (t.ead K c)) (.ref (t.ead K c')) = some (t.sub c c') := by
  have h1 := List.all_eq_true.mp h c (List.mem_range.mpr hc)
  have h2 := List.all_eq_true.mp h1 c' (List.mem_range.mpr hc')
  simpa only [Bool.and_eq_true, decide_eq_true_eq] using h2
end Z
end

section
/-! ZS: defs. -/
namespace Z
open PySem PySem.Spec PyProof.Rows L2
/-! ### binding -/
theorem zip_lookup {α : Type} {x : Str} : ∀ {ps : List Str} {us : List α}, ps.length = us.length → x ∈ ps → ∃ u, (ps.zip us).lookup x = some u
  | [], [], _, h => absurd h (by simp)
  | p :: ps, u :: us, hl, h => by
    by_cases e : x = p
    · subst e; exact ⟨u, by simp [List.lookup]⟩
    · have hm : x ∈ ps := by
        rcases List.mem_cons.mp h with z | z
        · exact absurd z e
        · exact z
      obtain ⟨w, hw⟩ := zip_lookup (ps := ps) (us := us) (by simpa using hl) hm
      refine ⟨w, ?_⟩
      have hb : (x == p) = false := by simpa using e
      simp only [List.zip_cons_cons, List.lookup, hb]
      exact hw
theorem zip_same {α : Type} : ∀ {ps : List Str} {us : List α} {pre : List (Str × α)}, ps.length = us.length → ps.Nodup → (∀ p ∈ ps, pre.lookup p = none) → (ps.filterMap fun n => ((pre ++ ps.zip us).lookup n).map (n, ·)) = ps.zip us
  | [], [], _, _, _, _ => rfl
  | p :: ps, u :: us, pre, hl, hn, hp => by
    have h1 : ((pre ++ (p :: ps).zip (u :: us)).lookup p) = some u := by
      rw [List.lookup_append, hp p List.mem_cons_self]
      simp [List.lookup]
    rw [List.filterMap_cons, h1]
    simp only [Option.map_some, List.zip_cons_cons, List.cons.injEq, true_and]
    have hn' := List.nodup_cons.mp hn
    have ih := zip_same (ps := ps) (us := us) (pre := pre ++ [(p, u)]) (by simpa using hl) hn'.2 fun q hq => by
      rw [List.lookup_append, hp q (List.mem_cons_of_mem _ hq)]
      have e : (q == p) = false := by
        simp only [beq_eq_false_iff_ne]
        intro z
        subst z
        exact hn'.1 hq
      simp [List.lookup, e]
    rw [List.append_assoc, List.singleton_append] at ih
    exact ih
theorem bind_plain {x qual : Str} {as : List Arg} {kd : List (Option Expr)} {body : List Stmt} {scope : Scope} {kV doc pm cdv ct : Value} {an : Option Addr} {us : List Value} (hl : us.length = (as.map (·.arg)).length) (hn : (as.map (·.arg)).Nodup) :
    bindArgs (PySem.W.fnOf x qual ⟨[], as, none, [], kd, none, []⟩ body scope .none kV doc pm an cdv ct) ⟨us, []⟩ = pure ((as.map (·.arg)).zip us) := by
  have h1 : ((as.map (·.arg)).filter fun n => (((as.map (·.arg)).zip us).lookup n).isNone) = [] := by
    apply List.filter_eq_nil_iff.mpr
    intro p hp
    obtain ⟨u, hu⟩ := zip_lookup hl.symm hp
    simp [hu]
  have h2 := zip_same (us := us) (pre := []) hl.symm hn fun p _ => rfl
  rw [List.nil_append] at h2
  have h3 : seqItems? Value.none = pure none := rfl
  unfold bindArgs
  simp only [PySem.W.fnOf, List.map_nil, List.nil_append, List.forIn_nil, pure_bind, h3, Option.getD_none, Array.toList_empty, List.length_nil, Nat.zero_sub, List.drop_nil, Nat.sub_zero, Option.isNone_none, Bool.and_true, List.zip_nil_right, List.isEmpty_nil, Bool.not_true, Bool.false_eq_true, if_false, List.append_nil, h2]
  rw [hl]
  simp only [Nat.lt_irrefl, gt_iff_lt, if_false, decide_false, Bool.false_eq_true, List.take_length, h1, List.isEmpty_nil, Bool.not_true, pure_bind]
/-! ### a program by its defs -/
def argsOf (p : Arguments) : Option (List Str) := match p with
  | ⟨[], as, none, [], _, none, []⟩ => some (as.map (·.arg))
  | _ => none
def chkDef (T : Tab) (q : DD) : Bool :=
  decide (argsOf q.d.params = some (q.N.take q.md.ar)) && decide (q.N.length = q.md.nn) && decide (q.md.ar ≤ q.md.nn) && decide q.N.Nodup && decide (q.d.scope.kind = .function) && !q.d.scope.isCoroutine && !q.d.scope.isGenerator &&
  (q.N.take q.md.ar).all (fun x => decide (q.d.scope.names.lookup x = some .local) || decide (q.d.scope.names.lookup x = some .cell)) && q.d.scope.names.all (fun y => decide (y.2 ≠ .free)) &&
  q.d.dfl.isEmpty && q.d.kwd.isEmpty && chkSs { N := q.N, sc := q.d.scope, fn := fun _ => true, T := T } q.md.body q.d.body
def constFa : Str × PV → He.Fa
  | (x, .int i) => .int x i
  | (x, .str s) => .str x (mkS s)
  | (x, _) => .free x
def constOk : Str × PV → Bool
  | (_, .int _) => true
  | (_, .str s) => okS s
  | _ => false
def Txt.fa (t : Txt) : List He.Fa := t.defs.map (fun q => .glo q.d.at_.1) ++ (frees.map .free ++ (t.consts.map constFa ++ (t.errs.map (fun e => .glo e.name) ++ t.cls.map fun c => .glo c.name)))
def EE.defs (e : EE) : List He.DefD := match e.ini with
  | some q => [q.2]
  | none => []
def Txt.fn (t : Txt) : List He.DefD := t.defs.map (·.d) ++ t.errs.flatMap EE.defs
/-- the names and scope of a def -/
def chkSc (N ps : List Str) (d : He.DefD) : Bool :=
  decide (argsOf d.params = some ps) && decide (N.take ps.length = ps) && decide N.Nodup && decide (d.scope.kind = .function) && !d.scope.isCoroutine && !d.scope.isGenerator &&
  ps.all (fun x => decide (d.scope.names.lookup x = some .local) || decide (d.scope.names.lookup x = some .cell)) && d.scope.names.all (fun y => decide (y.2 ≠ .free)) && d.dfl.isEmpty && d.kwd.isEmpty
def chkErr (t : Txt) (e : EE) : Bool := match e.ini with
  | none => e.fl.isEmpty && decide (e.np = 0)
  | some (N, d) => decide (0 < e.np) && decide (e.np ≤ 100) && decide (N.length = e.np + 1) && chkSc N N d && decide (d.at_ = (e.name, some ("__init__" : Str))) && !e.fl.isEmpty && decide (e.fl.length ≤ 800) && chkInit N d.scope (e.fl.map fun q => (fnmOf t.fnames q.1, q.2)) d.body
def Txt.ok (t : Txt) : Bool := t.defs.all (chkDef t.tab) && t.consts.all constOk && t.errs.all (chkErr t) && fnamesOk t.fnames &&
  t.hots.all fun f => match t.defs[f]? with
    | some q => chkSs { N := q.N, sc := q.d.scope, fn := fun _ => true, T := t.tab, hot := true } q.md.body q.d.body
    | none => true
theorem sc_ok {N ps : List Str} {d : He.DefD} (h : chkSc N ps d = true) : FnScope N ps d.scope ∧ (∀ (kV doc pm cdv ct : Value) (an : Option Addr) (us : List Value), us.length = ps.length → bindArgs (PySem.W.fnOf d.name d.qual d.params d.body d.scope .none kV doc pm an cdv ct) ⟨us, []⟩ = pure (ps.zip us)) ∧ d.dfl.isEmpty = true ∧ d.kwd.isEmpty = true := by
  simp only [chkSc, Bool.and_eq_true, decide_eq_true_eq] at h
  obtain ⟨⟨⟨⟨⟨⟨⟨⟨⟨h1, h2⟩, h3⟩, h4⟩, h5⟩, h6⟩, h7⟩, h8⟩, h9⟩, h10⟩ := h
  refine ⟨⟨h4, by simpa using h5, by simpa using h6, h3, h2, fun x hx => ?_, fun y hy => ?_⟩, fun kV doc pm cdv ct an us hl => ?_, h9, h10⟩
  · have := List.all_eq_true.mp h7 x hx
    simpa [Bool.or_eq_true] using this
  · have := List.all_eq_true.mp h8 y hy
    simpa using this
  · unfold argsOf at h1
    split at h1
    · rename_i as kd hp
      simp only [Option.some.injEq] at h1
      rw [hp, ← h1]
      refine bind_plain (by rw [h1]; exact hl) ?_
      rw [h1, ← h2]
      exact h3.sublist (List.take_sublist _ _)
    · cases h1
end Z
end

section
/-! ZSf: every def of the text keeps its promise. -/
namespace Z
open PySem PySem.Spec PyProof.Rows L2
theorem fa_all {fa : List He.Fa} {fn : List He.DefD} {K : PySem.W.Frag} (c : He.SaysD fa fn K) {f : He.Fa} (h : f ∈ fa) : f.ok K = true := by
  obtain ⟨i, hi, e⟩ := List.mem_iff_getElem.mp h
  exact c.fact i (by rw [List.getElem?_eq_getElem hi, e])
theorem fn_mem {fa : List He.Fa} {fn : List He.DefD} {K : PySem.W.Frag} (c : He.SaysD fa fn K) {d : He.DefD} (h : d ∈ fn) : ∃ fd, FunD K d.name d.qual d.params d.body d.scope (d.dvs K) (d.kws K) (He.fAd K d.at_) fd := by
  obtain ⟨i, hi, e⟩ := List.mem_iff_getElem.mp h
  exact c.def_ i (by rw [List.getElem?_eq_getElem hi, e])
theorem sl_start {M : Nm} {K : PySem.W.Frag} {F : Hp} {ρ : List Addr} {args : List LV} {vs : List V} {N : List Str} (r : RLs K F ρ args vs) : SL M K F ρ (start N vs) (args.map some ++ List.replicate (N.length - args.length) none) := by
  have hl := r.length
  refine ⟨by simp [L2.start, hl], fun i x hx => ?_⟩
  by_cases hi : i < args.length
  · rw [List.getElem?_append_left (by simpa using hi), List.getElem?_map, Option.map_eq_some_iff] at hx
    obtain ⟨y, e1, e2⟩ := hx
    cases e2
    obtain ⟨v, h1, h2⟩ := r.get e1
    refine ⟨v, ?_, .of h2⟩
    unfold L2.start
    rw [List.getElem?_append_left (by rw [List.length_map, ← hl]; exact hi), List.getElem?_map, h1]
    rfl
  · rw [List.getElem?_append_right (by simpa using hi), List.getElem?_replicate] at hx
    split at hx <;> cases hx
theorem dvs_nil {d : He.DefD} {K : PySem.W.Frag} (h : d.dfl.isEmpty = true) : d.dvs K = [] := by
  unfold He.DefD.dvs
  rw [List.isEmpty_iff.mp h]; rfl
theorem kws_nil {d : He.DefD} {K : PySem.W.Frag} (h : d.kwd.isEmpty = true) : d.kws K = [] := by
  unfold He.DefD.kws
  rw [List.isEmpty_iff.mp h]; rfl
structure DefOk (T : Tab) (q : DD) : Prop where
  args : argsOf q.d.params = some (q.N.take q.md.ar)
  nn : q.N.length = q.md.nn
  ar : q.md.ar ≤ q.md.nn
  nd : q.N.Nodup
  kind : q.d.scope.kind = .function
  co : q.d.scope.isCoroutine = false
  gen : q.d.scope.isGenerator = false
  par : ∀ x ∈ q.N.take q.md.ar, q.d.scope.names.lookup x = some .local ∨ q.d.scope.names.lookup x = some .cell
  nofree : ∀ y ∈ q.d.scope.names, y.2 ≠ .free
  dfl : q.d.dfl.isEmpty = true
  kwd : q.d.kwd.isEmpty = true
  body : chkSs { N := q.N, sc := q.d.scope, fn := fun _ => true, T := T } q.md.body q.d.body = true
theorem DefOk.of {T : Tab} {q : DD} (h : chkDef T q = true) : DefOk T q := by
  simp only [chkDef, Bool.and_eq_true, decide_eq_true_eq] at h
  obtain ⟨⟨⟨⟨⟨⟨⟨⟨⟨⟨⟨h1, h2⟩, h3⟩, h4⟩, h5⟩, h6⟩, h7⟩, h8⟩, h9⟩, h11⟩, h12⟩, h13⟩ := h
  refine ⟨h1, h2, h3, h4, h5, by simpa using h6, by simpa using h7, fun x hx => ?_, fun y hy => ?_, h11, h12, h13⟩
  · have := List.all_eq_true.mp h8 x hx
    simpa [Bool.or_eq_true] using this
  · have := List.all_eq_true.mp h9 y hy
    simpa using this
theorem DefOk.len {T : Tab} {q : DD} (h : DefOk T q) : (q.N.take q.md.ar).length = q.md.ar := by
  have h1 := h.nn
  have h2 := h.ar
  rw [List.length_take, h1]; omega
theorem DefOk.scope {T : Tab} {q : DD} (h : DefOk T q) : FnScope q.N (q.N.take q.md.ar) q.d.scope := ⟨h.kind, h.co, h.gen, h.nd, by rw [h.len], h.par, h.nofree⟩
theorem DefOk.binds {T : Tab} {q : DD} (h : DefOk T q) {kV doc pm cdv ct : Value} {an : Option Addr} {us : List Value} (hl : us.length = (q.N.take q.md.ar).length) :
    bindArgs (PySem.W.fnOf q.d.name q.d.qual q.d.params q.d.body q.d.scope .none kV doc pm an cdv ct) ⟨us, []⟩ = pure ((q.N.take q.md.ar).zip us) := by
  have h1 := h.args
  unfold argsOf at h1
  split at h1
  · rename_i as kd hp
    simp only [Option.some.injEq] at h1
    rw [hp, ← h1]
    exact bind_plain (by rw [h1]; exact hl) (by rw [h1]; exact h.nd.sublist (List.take_sublist _ _))
  · cases h1
section
variable {P : Program} {w : World} {K : PySem.W.Frag} {mg : Str → Option Value} {base h : Heap} {t : Txt} {M : Nm} {shr : Nat → Bool} {wf : Nat}
theorem endR_post {F H : Hp} {ρ : List Addr} {Q : VK} {E : XK} {fr : FR} {r : ER} (e : endR (some fr) = some r) (p : PostE M K (fun cls d _ H => E cls d H) [] F ρ H Q r) :
    PostS M K (fun cls d _ H => E cls d H) F ρ H { nx := fun _ H' => Q .non H', rt := Q } fr := by
  cases fr with
  | nx φ st =>
    simp only [endR, Option.some.injEq] at e
    subst e
    exact fun F' ρ' H' σ' g h s => p F' ρ' H' .non g h (by simp only [RL, RP])
  | rt v st =>
    simp only [endR, Option.some.injEq] at e
    subst e
    exact p
  | bk φ st => simp [endR] at e
  | ct φ st => simp [endR] at e
  | ex x φ st =>
    simp only [endR, Option.some.injEq] at e
    subst e
    exact fun F' ρ' H' σ' cls d g h s x => p F' ρ' H' cls d g h x
/-- what K says of the text -/
structure Says (t : Txt) (w : World) (K : PySem.W.Frag) (h : Heap) (mg : Str → Option Value) : Prop where
  kin : K.In h
  ns : h.Ns mainGlobals mg
  c : He.SaysD t.fa t.fn K
  ck : t.ck K = true
  dt : ∀ q ∈ t.dts, ∃ es n, L2.KDict K w (He.ga K q.1) es n
  ok : t.ok = true
structure TxtOk (t : Txt) : Prop where
  defs : ∀ q ∈ t.defs, DefOk t.tab q
  consts : ∀ q ∈ t.consts, constOk q = true
  errs : ∀ q ∈ t.errs, chkErr t q = true
  fn : fnamesOk t.fnames = true
  hots : ∀ f ∈ t.hots, ∀ q, t.defs[f]? = some q → chkSs { N := q.N, sc := q.d.scope, fn := fun _ => true, T := t.tab, hot := true } q.md.body q.d.body = true
theorem TxtOk.of (h : t.ok = true) : TxtOk t := by
  simp only [Txt.ok, Bool.and_eq_true, List.all_eq_true] at h
  obtain ⟨⟨⟨⟨h1, h2⟩, h3⟩, h4⟩, h5⟩ := h
  refine ⟨fun q hq => .of (h1 q hq), h2, h3, h4, fun f hf q hq => ?_⟩
  have := h5 f hf
  rw [hq] at this
  exact this
theorem Says.free (Y : Says t w K h mg) {x : Str} (hx : x ∈ frees) : mg x = none := He.free_ok Y.kin Y.ns (fa_all Y.c (by
    unfold Txt.fa
    exact List.mem_append_right _ (List.mem_append_left _ (List.mem_map.mpr ⟨x, hx, rfl⟩))))
theorem Says.defAt (Y : Says t w K h mg) {f : Nat} {q : DD} (hq : t.defs[f]? = some q) : mg q.d.at_.1 = some (.ref (He.ga K q.d.at_.1)) := by
  have hm := List.mem_of_getElem? hq
  exact He.glo_ok Y.kin Y.ns (fa_all Y.c (by unfold Txt.fa; exact List.mem_append_left _ (List.mem_map.mpr ⟨q, hm, rfl⟩)))
theorem Says.one (Y : Says t w K h mg) {f : Nat} {q : DD} (hq : t.defs[f]? = some q) : ∃ fd, FunD K q.d.name q.d.qual q.d.params q.d.body q.d.scope [] [] (He.fAd K q.d.at_) fd := by
  have hm := List.mem_of_getElem? hq
  have D := (TxtOk.of Y.ok).defs q hm
  obtain ⟨fd, F⟩ := fn_mem Y.c (d := q.d) (by unfold Txt.fn; exact List.mem_append_left _ (List.mem_map.mpr ⟨q, hm, rfl⟩))
  rw [dvs_nil D.dfl, kws_nil D.kwd] at F
  exact ⟨fd, F⟩
theorem Says.glb (Y : Says t w K h mg) (i : Nat) (x : Str) (z : PV) (h1 : t.tab.glbs[i]? = some x) (h2 : (t.consts[i]?).map (·.2) = some z) : ∃ u v, mg x = some u ∧ L2.RelV v u ∧ flat z = true ∧ RP K (fun _ => none) z v := by
  have h1' : (t.consts.map (·.1))[i]? = some x := h1
  rw [List.getElem?_map, Option.map_eq_some_iff] at h1'
  obtain ⟨y, e1, e2⟩ := h1'
  rw [e1] at h2
  simp only [Option.map_some, Option.some.injEq] at h2
  obtain ⟨yx, yz⟩ := y
  simp only at e2 h2
  subst e2 h2
  have hk := (TxtOk.of Y.ok).consts _ (List.mem_of_getElem? e1)
  have hf : constFa (yx, yz) ∈ t.fa := by
    unfold Txt.fa
    exact List.mem_append_right _ (List.mem_append_right _ (List.mem_append_left _ (List.mem_map.mpr ⟨_, List.mem_of_getElem? e1, rfl⟩)))
  cases yz <;> simp only [constOk, Bool.false_eq_true] at hk
  · obtain ⟨tk, hm⟩ := He.int_ok Y.kin Y.ns (fa_all Y.c hf)
    exact ⟨_, .int _, hm, ⟨tk, rfl⟩, rfl, by simp only [RP]⟩
  · obtain ⟨tk, hm⟩ := He.str_ok Y.kin Y.ns (fa_all Y.c hf)
    exact ⟨_, .str _, hm, ⟨tk, rfl⟩, rfl, by simp only [RP, true_and]; exact hk⟩
theorem Says.ck3 (Y : Says t w K h mg) : (∀ e ∈ t.errs, errB K t e = true) ∧ subB K t = true ∧ ∀ c ∈ t.cls, clsB K t c = true := by
  have h := Y.ck
  simp only [Txt.ck, Bool.and_eq_true, List.all_eq_true] at h
  exact ⟨h.1.1.1.1, h.1.1.1.2, h.1.1.2⟩
theorem Says.tabs (Y : Says t w K h mg) (i : Nat) (x : Str) (h1 : t.tab.tabs[i]? = some x) : ∃ (ps : List Sg) (a : Addr), (t.tabs[i]?).map (·.2) = some ps ∧ mg x = some (.ref a) ∧ (∀ H, SqT K H a ((ps.map mkS).map V.str)) ∧ (∃ o, K.lookup a = some o ∧ o.cls = .type "tuple" ∧ o.dict = none) ∧ ∀ p ∈ ps, okS p = true := by
  have h1' : (t.tabs.map (·.1))[i]? = some x := h1
  rw [List.getElem?_map, Option.map_eq_some_iff] at h1'
  obtain ⟨q, e1, e2⟩ := h1'
  subst e2
  have hc := Y.ck
  simp only [Txt.ck, Bool.and_eq_true, List.all_eq_true] at hc
  have hb := hc.1.2 q (List.mem_of_getElem? e1)
  simp only [tabB, Bool.and_eq_true] at hb
  obtain ⟨b1, b2⟩ := hb
  split at b2
  · rename_i o ho
    simp only [Bool.and_eq_true, decide_eq_true_eq] at b2
    obtain ⟨⟨c1, c2⟩, c3⟩ := b2
    split at c3
    · rename_i its n hd
      simp only [Bool.and_eq_true, decide_eq_true_eq] at c3
      obtain ⟨d1, d2⟩ := c3
      obtain ⟨v1, v2⟩ := txsB_ok d2
      refine ⟨q.2, He.ga K q.1, by rw [e1]; rfl, He.glo_ok Y.kin Y.ns b1, fun H => .inr ⟨o, its, n, ho, c1, hd, ?_, v1⟩, ⟨o, ho, c1, c2⟩, v2⟩
      have : sizeLine = 16777216 := rfl
      omega
    · cases c3
  · cases b2
theorem Says.dtabs (Y : Says t w K h mg) (i : Nat) (x : Str) (h1 : t.tab.dtabs[i]? = some x) : ∃ (kvs : List (Sg × PV)) (a : Addr), (t.dtabs[i]?).map (·.2) = some kvs ∧ mg x = some (.ref a) ∧ DtOk K w a kvs := by
  have h1' : (t.dtabs.map (·.1))[i]? = some x := h1
  rw [List.getElem?_map, Option.map_eq_some_iff] at h1'
  obtain ⟨q, e1, e2⟩ := h1'
  subst e2
  have hc := Y.ck
  simp only [Txt.ck, Bool.and_eq_true, List.all_eq_true] at hc
  have hm := List.mem_of_getElem? e1
  have hb := hc.2 q hm
  simp only [dtabB, Bool.and_eq_true, List.all_eq_true] at hb
  obtain ⟨b1, b2⟩ := hb
  obtain ⟨es, n, D⟩ := Y.dt (q.1, q.2.map fun kv => mkS kv.1) (List.mem_map.mpr ⟨q, hm, rfl⟩)
  refine ⟨q.2, He.ga K q.1, by rw [e1]; rfl, He.glo_ok Y.kin Y.ns b1, es, n, D, fun kv hkv => ?_⟩
  have := b2 kv hkv
  split at this
  · rename_i u hu
    obtain ⟨v, r1, r2⟩ := dvB_ok (K := K) this
    exact ⟨u, v, hu, r1, r2⟩
  · cases this
theorem tab_errs {c : Nat} {ei : EI} (h : t.tab.errs[c]? = some ei) : ∃ e, t.errs[c]? = some e ∧ e.ei = ei := by
  have h' : (t.errs.map EE.ei)[c]? = some ei := h
  rw [List.getElem?_map, Option.map_eq_some_iff] at h'
  exact h'
theorem Says.err (Y : Says t w K h mg) {X : Cx} {S : Sem} {k : Nat} (hP : X.prog = P) (hw : X.w = w) (hK : X.K = K) (hm : X.mg = mg) (hS : S.xin = t.xin) (hsub : S.sub = t.sub) (hk : 2 ≤ k) (c : Nat) (ei : EI) (hc : t.tab.errs[c]? = some ei) : EOk X t.tab (t.nm K) S k c ei := by
  subst hK
  obtain ⟨e, he, rfl⟩ := tab_errs hc
  have hmem := List.mem_of_getElem? he
  obtain ⟨c1, c2, _⟩ := Y.ck3
  have hB := c1 e hmem
  have hE := (TxtOk.of Y.ok).errs e hmem
  have ead : (t.nm X.K).ead c = He.ga X.K e.name := by
    show t.ead X.K c = _
    unfold Txt.ead
    rw [he]
  simp only [errB, Bool.and_eq_true] at hB
  obtain ⟨⟨b1, b2⟩, b3⟩ := hB
  obtain ⟨ec, xf⟩ := eccB_ok b1
  have no : ∀ q ∈ e.fl, PySem.W.findIn X.K (.ref (He.ga X.K e.name)) (fnmOf t.fnames q.1) = some none := fun q hq => by
    have := List.all_eq_true.mp b2 q hq
    simpa using this
  refine ⟨?_, ?_, ?_, ?_, ?_, ?_, ?_⟩
  · rw [ead, hm]
    exact He.glo_ok Y.kin Y.ns (fa_all Y.c (by
      unfold Txt.fa
      exact List.mem_append_right _ (List.mem_append_right _ (List.mem_append_right _ (List.mem_append_left _ (List.mem_map.mpr ⟨e, hmem, rfl⟩))))))
  · rw [ead]; exact xf
  · rw [ead]; exact ec
  · intro q hq
    rw [ead]
    exact no q hq
  · intro c' ei' hc'
    obtain ⟨e', he', rfl⟩ := tab_errs hc'
    have h1 := subB_ok c2 (c := c) (c' := c') (List.getElem?_eq_some_iff.mp he).1 (List.getElem?_eq_some_iff.mp he').1
    rw [hsub]
    exact h1
  · rw [hS]
    show (t.errs[c]?).map _ = _
    rw [he]; rfl
  · rw [ead]
    unfold chkErr at hE
    cases hi : e.ini with
    | none =>
      rw [hi] at b3 hE
      simp only [Bool.and_eq_true, decide_eq_true_eq, List.isEmpty_iff] at b3 hE
      obtain ⟨⟨b4, b5⟩, b6⟩ := b3
      exact .inl ⟨hE.1, hE.2, b4, b5, raises_own ec.hs b6⟩
    | some nd =>
      obtain ⟨N, d⟩ := nd
      rw [hi] at b3 hE
      simp only [Bool.and_eq_true, decide_eq_true_eq, Bool.not_eq_true'] at b3 hE
      obtain ⟨⟨b4, b5⟩, b6⟩ := b3
      obtain ⟨⟨⟨⟨⟨⟨⟨e1, e2⟩, e3⟩, e4⟩, e5⟩, e6⟩, e7⟩, e8⟩ := hE
      have oex := oexB_ok b4
      obtain ⟨S1, B1, dz, kz⟩ := sc_ok e4
      obtain ⟨fd, F⟩ := fn_mem Y.c (d := d) (by
        unfold Txt.fn
        exact List.mem_append_right _ (List.mem_flatMap.mpr ⟨e, hmem, by unfold EE.defs; rw [hi]; exact List.mem_singleton.mpr rfl⟩))
      rw [dvs_nil dz, kws_nil kz] at F
      have had : He.fAd X.K d.at_ = He.ma X.K (He.ga X.K e.name) "__init__" := by
        rw [e5]; rfl
      rw [had] at F
      refine .inr ⟨e1, e2, oex, _, fd, N, 1, by decide, b5, b6, ?_, F.bindsN fun kV doc pm an cdv ct us hl => B1 kV doc pm cdv ct an us hl⟩
      exact init_ok F S1 oex e3 (by
        intro z
        have z' := congrArg List.length z
        rw [List.length_map] at z'
        have : e.fl = [] := List.length_eq_zero_iff.mp z'
        have e6' : e.ei.fl.isEmpty = false := e6
        have : e.ei.fl = [] := this
        rw [this] at e6'
        cases e6') (by rw [List.length_map]; exact e7) (fun q hq => by
          obtain ⟨q0, h1, h2⟩ := List.mem_map.mp hq
          subst h2
          exact no q0 h1) e8
end
end Z
end

section
/-! ZSg: defs_ok. -/
namespace Z
open PySem PySem.Spec PyProof.Rows L2
section
variable {P : Program} {w : World} {K : PySem.W.Frag} {mg : Str → Option Value} {base h : Heap} {t : Txt} {shr : Nat → Bool} {wf : Nat}
/-- what a def keeps, n calls deep -/
structure DK (t : Txt) (P : Program) (w : World) (K : PySem.W.Frag) (mg : Str → Option Value) (base : Heap) (shr : Nat → Bool) (wf n f : Nat) (q : DD) (fd : FuncData) : Prop where
  fun_ : FunD K q.d.name q.d.qual q.d.params q.d.body q.d.scope [] [] (He.fAd K q.d.at_) fd
  ok : FnG P w K mg base (L2N.CX P w) (n + 30) (He.fAd K q.d.at_) fd (q.N.take q.md.ar) (spOf (t.nm K) K ((t.prog shr wf).cal n f) q.md.ar)
theorem Says.binds (Y : Says t w K h mg) {f : Nat} {q : DD} {fd : FuncData} (hq : t.defs[f]? = some q) (F : FunD K q.d.name q.d.qual q.d.params q.d.body q.d.scope [] [] (He.fAd K q.d.at_) fd) : Binds K fd (q.N.take q.md.ar) [] :=
  F.bindsN fun kV doc pm an cdv ct us hl => ((TxtOk.of Y.ok).defs q (List.mem_of_getElem? hq)).binds hl
theorem Says.mgf (Y : Says t w K h mg) {f : Nat} {q : DD} {x : Str} {m : Nat} (hq : t.tab.defs[f]? = some (some x, m)) (hd : t.defs[f]? = some q) : mg x = some (.ref (He.fAd K q.d.at_)) ∧ q.md.ar = m := by
  have hx' : (t.defs.map fun q => ((if q.d.at_.2.isNone then some q.d.at_.1 else none : Option Str), q.md.ar))[f]? = some (some x, m) := hq
  rw [List.getElem?_map, hd] at hx'
  simp only [Option.map_some, Option.some.injEq, Prod.mk.injEq] at hx'
  obtain ⟨e1, e2⟩ := hx'
  split at e1
  · rename_i hn
    cases e1
    refine ⟨?_, e2⟩
    have := Y.defAt hd
    rw [this]
    unfold He.fAd
    rw [Option.isNone_iff_eq_none.mp hn]
  · cases e1
/-- the calls that a body may make -/
structure CallsK (t : Txt) (P : Program) (w : World) (K : PySem.W.Frag) (mg : Str → Option Value) (base : Heap) (S : Sem) (k : Nat) : Prop where
  g : ∀ f q, t.defs[f]? = some q → ∃ fd, FunD K q.d.name q.d.qual q.d.params q.d.body q.d.scope [] [] (He.fAd K q.d.at_) fd ∧ FnG P w K mg base (L2N.CX P w) k (He.fAd K q.d.at_) fd (q.N.take q.md.ar) (spOf (t.nm K) K (S.cal f) q.md.ar)
  g1 : ∃ j, j + 1 ≤ k ∧ ∀ f q, t.defs[f]? = some q → ∃ fd, FunD K q.d.name q.d.qual q.d.params q.d.body q.d.scope [] [] (He.fAd K q.d.at_) fd ∧ FnG P w K mg base (L2N.CX P w) j (He.fAd K q.d.at_) fd (q.N.take q.md.ar) (spOf (t.nm K) K (S.cal1 f) q.md.ar)
theorem Says.cls (Y : Says t w K h mg) {S : Sem} {k : Nat} {X : Cx} (hX : X.prog = P ∧ X.w = w ∧ X.K = K ∧ X.mg = mg ∧ X.base = base) (D : CallsK t P w K mg base S k) (c : Nat) (ci : CI) (hc : t.tab.cls[c]? = some ci) : COk X (t.nm K) S k c ci := by
  obtain ⟨h1, h2, h3, h4, h5⟩ := hX
  subst h1 h2 h3 h4 h5
  have hc' : t.cls[c]? = some ci := hc
  have hmem := List.mem_of_getElem? hc'
  have hB := Y.ck3.2.2 ci hmem
  have cad : (t.nm X.K).cad c = He.ga X.K ci.name := by
    show t.cad X.K c = _
    unfold Txt.cad
    rw [hc']
  simp only [clsB, Bool.and_eq_true] at hB
  obtain ⟨⟨b1, b2⟩, b3⟩ := hB
  have mth : ∀ (m : Str) (f n : Nat), (m, f, n) ∈ ci.meths → ∃ d, t.defs[f]? = some d ∧ d.md.ar = n ∧ PySem.W.findIn X.K (.ref (He.ga X.K ci.name)) m = some (some (.ref (He.fAd X.K d.d.at_))) ∧ PySem.W.isFn X.K (.ref (He.fAd X.K d.d.at_)) = true ∧ PySem.W.keepIn X.K (.ref (He.fAd X.K d.d.at_)) = true ∧
      (m = ("__init__" : Str) → PySem.W.makesIn X.K (He.ga X.K ci.name) = true ∧ PySem.W.keepIn X.K (.ref (He.ga X.K ci.name)) = true) := fun m f n hm => by
    have := List.all_eq_true.mp b3 _ hm
    unfold methB at this
    split at this
    · rename_i d hd
      simp only [Bool.and_eq_true, decide_eq_true_eq, Bool.or_eq_true, Bool.not_eq_true', decide_eq_false_iff_not] at this
      obtain ⟨⟨⟨⟨g1, g2⟩, g3⟩, g4⟩, g5⟩ := this
      exact ⟨d, hd, g1, g2, g3, g4, fun e => g5.resolve_left fun z => z e⟩
    · cases this
  refine ⟨?_, ?_, ?_, ?_, ?_⟩
  · rw [cad]
    exact He.glo_ok Y.kin Y.ns (fa_all Y.c (by
      unfold Txt.fa
      exact List.mem_append_right _ (List.mem_append_right _ (List.mem_append_right _ (List.mem_append_right _ (List.mem_map.mpr ⟨ci, hmem, rfl⟩))))))
  · rw [cad]; exact He.cls_ok b1
  · intro f hf
    rw [cad]
    have := List.all_eq_true.mp b2 f hf
    show PySem.W.findIn X.K _ (fnmOf t.fnames f) = _
    simpa using this
  · intro m f n hm
    rw [cad]
    obtain ⟨d, hd, ha, m1, m2, m3, _⟩ := mth m f n hm
    obtain ⟨fd, F, G⟩ := D.g f d hd
    subst ha
    exact ⟨_, fd, _, ⟨m1, m2, m3⟩, G, Y.binds hd F⟩
  · intro f n hm
    rw [cad]
    obtain ⟨d, hd, ha, m1, m2, m3, m4⟩ := mth _ f n hm
    obtain ⟨j, hj, D1⟩ := D.g1
    obtain ⟨fd, F, G⟩ := D1 f d hd
    obtain ⟨m5, m6⟩ := m4 rfl
    subst ha
    exact ⟨_, fd, _, j, hj, ⟨m5, m1, m2, m6⟩, G, Y.binds hd F⟩
theorem sem_cal {n f : Nat} : ((t.prog shr wf).sem n).cal f = (t.prog shr wf).cal n f := rfl
/-- the context of a body, cold or hot -/
theorem Says.cok (Y : Says t w K h mg) {n : Nat} {q : DD} (D : CallsK t P w K mg base ((t.prog shr wf).sem n) (n + 30)) {X : Cx} {E : XK} (hot : Bool) (hX : X.prog = P ∧ X.w = w ∧ X.K = K ∧ X.mg = mg ∧ X.base = base) (hN : X.N = q.N) (hsc : X.env.scope = q.d.scope) (hfn : ∀ x, X.fn x = true) (nd : q.N.Nodup)
    (calm : hot = false → X.calm = true) (nh : t.hots = []) (hr : hot = false → RoomZ (n + 30) X.A) (hrH : hot = true → L2H.RoomH 30 X.A) (hotc : hot = true → L2H.HotC X) (un : room2 X) (gd : hot = false → X.A.guards = some [])
    (stk : X.stack = X.env :: X.outer) (frm : X.env.frame = some X.env.locals) (tk : L2N.Takes X (fun cls d _ H => E cls d H)) (pa : PassesOwn (model X.prog X.w) X.A X.env X.xe) :
    Cok X { N := q.N, sc := q.d.scope, fn := fun _ => true, T := t.tab, hot := hot } (t.nm K) ((t.prog shr wf).sem n) (fun cls d _ H => E cls d H) (n + 30) := by
  have hX' := hX
  obtain ⟨h1, h2, h3, h4, h5⟩ := hX
  subst h1 h2 h3 h4 h5
  exact {
    N := hN
    sc := hsc
    fn := fun x _ => hfn x
    nd := by rw [hN]; exact nd
    calm := calm
    hr := hr
    hrH := hrH
    hotc := hotc
    un := un
    gd := gd
    gdx := fun h => by cases h
    tab := Y.tabs
    dtab := Y.dtabs
    fr := fun x hx => Y.free hx
    glb := fun i x z h1 h2 => Y.glb i x z h1 h2
    callsH := fun f x m hx hh => by
      have hh' : t.hots.contains f = true := hh
      rw [nh] at hh'
      cases hh'
    calls := fun _ f x m hx => by
      have hd : ∃ q2, t.defs[f]? = some q2 := by
        have hx' : (t.defs.map fun q => ((if q.d.at_.2.isNone then some q.d.at_.1 else none : Option Str), q.md.ar))[f]? = some (some x, m) := hx
        rw [List.getElem?_map, Option.map_eq_some_iff] at hx'
        obtain ⟨q2, e, _⟩ := hx'
        exact ⟨q2, e⟩
      obtain ⟨q2, e1⟩ := hd
      obtain ⟨fd2, F2, ok2⟩ := D.g f q2 e1
      obtain ⟨hm, ha⟩ := Y.mgf hx e1
      subst ha
      exact ⟨_, fd2, _, ok2, hm, F2.kp, Y.binds e1 F2⟩
    errs := fun c ei hc => Y.err (P := X.prog) (w := X.w) rfl rfl rfl rfl rfl rfl (by omega) c ei hc
    cls := fun c ci hc => Y.cls hX' D c ci hc
    nf := Nat.le_refl _
    xerr := fun c hc => by
      have hc' : (t.errs[c]?).map (fun e => (e.np, e.fl)) ≠ none := hc
      cases e : t.errs[c]? with
      | none => rw [e] at hc'; exact absurd rfl hc'
      | some e' =>
        refine ⟨e'.ei, ?_⟩
        show (t.errs.map EE.ei)[c]? = _
        rw [List.getElem?_map, e]; rfl
    finj := fnmOf_inj (TxtOk.of Y.ok).fn
    fname := fun f x hx => fnmOf_some hx
    cur := rfl
    cold := fun _ => rfl
    stk := fun _ => stk
    frm := fun _ => frm
    takes := tk
    pass := pa }
theorem cal_succ {p : Prog} {n f : Nat} {vs : List LV} {st : Store} {d : MD} (h : p.defs[f]? = some d) : p.cal (n + 1) f vs st = d.run (p.sem n) vs st := by
  show p.runBy _ _ f vs st = _
  unfold Prog.runBy
  rw [h]; rfl
theorem body_ok {X : Cx} {q : DD} {n f : Nat} {D : TS} {as : List LV} {vs : List V} {F0 H : Hp} {ρ : List Addr} {st : Store} {r : ER} {Q : VK} {E : XK} {M : Nm} (hd : DefOk t.tab q) (hq : t.defs[f]? = some q)
    (t2 : RdS M X.K (fun cls d _ H => E cls d H) D (exSs ((t.prog shr wf).sem n) q.md.body)) (hh : HR' M X.K F0 ρ H st) (ra : RLs X.K F0 ρ as vs) (e : (t.prog shr wf).cal (n + 1) f as st = some r) (p : PostE M X.K (fun cls d _ H => E cls d H) [] F0 ρ H Q r) :
    D { nx := fun _ H' => Q .non H', rt := Q } (start q.N vs) H := by
  have e' : (t.prog shr wf).defs[f]? = some q.md := by
    show (t.defs.map (·.md))[f]? = _
    rw [List.getElem?_map, hq]; rfl
  rw [cal_succ e'] at e
  unfold MD.run at e
  split at e
  · rename_i hla
    have hsl := sl_start (M := M) (N := q.N) ra
    rw [hd.nn, hla] at hsl
    cases q3 : exSs ((t.prog shr wf).sem n) q.md.body (as.map some ++ List.replicate (q.md.nn - q.md.ar) none) st with
    | none => rw [q3] at e; simp [endR] at e
    | some fr =>
      rw [q3] at e
      exact t2 _ _ H _ F0 ρ st fr hh hsl q3 (endR_post e p)
  · cases e
theorem defs_ok (Y : Says t w K h mg) (nh : t.hots = []) : ∀ (n : Nat), (∀ (f : Nat) (q : DD), t.defs[f]? = some q → ∃ fd, DK t P w K mg base shr wf n f q fd) ∧ CallsK t P w K mg base ((t.prog shr wf).sem n) (n + 30) := by
  have dead : ∀ (c : Nat → List LV → Store → Option ER), (∀ f as st, c f as st = none) → ∀ k f q, t.defs[f]? = some q → ∃ fd, FunD K q.d.name q.d.qual q.d.params q.d.body q.d.scope [] [] (He.fAd K q.d.at_) fd ∧ FnG P w K mg base (L2N.CX P w) k (He.fAd K q.d.at_) fd (q.N.take q.md.ar) (spOf (t.nm K) K (c f) q.md.ar) := fun c hc k f q hq => by
    obtain ⟨fd, F⟩ := Y.one hq
    have D := (TxtOk.of Y.ok).defs q (List.mem_of_getElem? hq)
    refine ⟨fd, F, ⟨fun vs H Q E hs => by rw [D.len]; exact hs.1, fun A outer s H args us vs Q E hr hgd he hb hv hs => ?_⟩⟩
    obtain ⟨_, F0, ρ, st, as, r, _, _, e, _⟩ := hs
    rw [hc] at e; cases e
  intro n
  induction n with
  | zero =>
    refine ⟨fun f q hq => ?_, ⟨fun f q hq => ?_, 0, by omega, fun f q hq => ?_⟩⟩
    · obtain ⟨fd, F, G⟩ := dead (fun _ _ _ => none) (fun _ _ _ => rfl) (0 + 30) f q hq
      exact ⟨fd, F, G⟩
    · obtain ⟨fd, F, G⟩ := dead (fun _ _ _ => none) (fun _ _ _ => rfl) (0 + 30) f q hq
      exact ⟨fd, F, G⟩
    · obtain ⟨fd, F, G⟩ := dead (fun _ _ _ => none) (fun _ _ _ => rfl) 0 f q hq
      exact ⟨fd, F, G⟩
  | succ n ih =>
    obtain ⟨ih1, D⟩ := ih
    have now : ∀ (f : Nat) (q : DD), t.defs[f]? = some q → ∃ fd, DK t P w K mg base shr wf (n + 1) f q fd := fun f q hq => by
      obtain ⟨fd, F⟩ := Y.one hq
      have hd := (TxtOk.of Y.ok).defs q (List.mem_of_getElem? hq)
      have S := hd.scope
      refine ⟨fd, F, ?_⟩
      refine fund_okG F S (fun vs H Q E hs => by rw [hd.len]; exact hs.1) fun cdv A outer s H vs Q E hr hgd hs => ?_
      obtain ⟨hl, F0, ρ, st, as, r, hh, ra, e, p⟩ := hs
      have C := Y.cok (q := q) D (X := cxOf (L2N.CX P w) P w K mg base q.N q.d.qual q.d.scope (He.fAd K q.d.at_) cdv A outer s H E) (E := E) false ⟨rfl, rfl, rfl, rfl, rfl⟩ rfl rfl (fun _ => rfl) hd.nd (fun _ => rfl) nh (fun _ => hr) (fun z => by cases z) (fun z => by cases z)
        (by have := hr.un; show (A.deeper (envOfC q.d.qual q.d.scope s.heap.objs.size (He.fAd K q.d.at_) cdv)).units + 600 < cLine; omega) (fun _ => hgd) rfl rfl (L2N.takes_of rfl rfl rfl rfl) (passes_of rfl)
      obtain ⟨ts, t1, t2⟩ := sndSs q.md.body _ _ _ _ q.d.body C hd.body
      exact ⟨ts, t1, body_ok hd hq t2 hh ra e p⟩
    refine ⟨now, ⟨fun f q hq => ?_, n + 30, by omega, fun f q hq => ?_⟩⟩
    · obtain ⟨fd, k⟩ := now f q hq
      exact ⟨fd, k.fun_, k.ok⟩
    · obtain ⟨fd, k⟩ := ih1 f q hq
      exact ⟨fd, k.fun_, k.ok⟩
end
end Z
end

section
/-! ZT: a law's end. -/
namespace Z
open PySem PySem.Spec PyProof.Rows L2
/-- the start of a law: what lies in the heap that its call sees -/
structure Begun (P : Program) (w : World) (K : PySem.W.Frag) (s : Shared) (a : Addr) (ns : List Int) (H : Hp) : Prop where
  frozen : Only H
  script : SqL K H a (ns.map V.int)
  hok : HOk P w H s.heap
  alone : ∀ b, H b ≠ none → b = a
  away : H a ≠ none → K.lookup a = none
theorem begin_ {P : Program} {w : World} {K : PySem.W.Frag} {s : Shared} {a : Addr} {us : List Value} {ns : List Int} (KX : K.In s.heap) (at_ : s.heap.get? a = some { cls := .type "list", data := .seq us.toArray }) (hints : IntsAre us ns) (few : ns.length ≤ sizeLine) :
    ∃ H, Begun P w K s a ns H := by
  have hv : Vals (ns.map V.int) us := vals_ints hints
  have hsz : us.length = ns.length := hints.length
  by_cases hn : K.lookup a = none
  · let H : Hp := fun b => if b = a then some (.frz { cls := .type "list", data := .seq us.toArray } (.lst (ns.map V.int))) else none
    have Ha : H a = some (.frz { cls := .type "list", data := .seq us.toArray } (.lst (ns.map V.int))) := if_pos rfl
    have Hb : ∀ b, b ≠ a → H b = none := fun b q => if_neg q
    refine ⟨H, ⟨fun b => ?_, .inl (.inr ⟨_, Ha⟩), fun b u q => ?_, fun b q => ?_, fun _ => hn⟩⟩
    · rcases Classical.em (b = a) with q | q
      · exact .inr ⟨_, _, by rw [q]; exact Ha⟩
      · exact .inl (Hb b q)
    · rcases Classical.em (b = a) with r | r
      · rw [r, Ha] at q
        cases q
        rw [r]
        exact ⟨at_, by rw [List.length_map]; exact few, us, _, hv, at_⟩
      · rw [Hb b r] at q; cases q
    · rcases Classical.em (b = a) with r | r
      · exact r
      · exact absurd (Hb b r) q
  · obtain ⟨o, ho⟩ := Option.ne_none_iff_exists'.mp hn
    have eo := (KX a o ho).symm.trans at_
    cases eo
    exact ⟨fun _ => none, ⟨fun _ => .inl rfl, .inr ⟨_, us.toArray, _, ho, rfl, rfl, rfl, by rw [List.size_toArray, hsz]; exact few, by simpa using hv⟩, fun _ _ q => (by cases q), fun _ q => absurd rfl q, fun q => absurd rfl q⟩⟩
/-- the call that a law is -/
theorem law_run {P : Program} {w : World} {K : PySem.W.Frag} {mg mb : Str → Option Value} {CX : CXT} {k : Nat} {fa a : Addr} {fd : FuncData} {x : Str} {sp : Sp} {s : Shared} {us : List Value} {ns : List Int}
    (KX : K.In s.heap) (gns : s.heap.Ns mainGlobals mg) (bns : s.heap.Ns builtinsNs mb) (boot : ∀ x : Str, x ≠ "__name__" → mb x = bootBuiltins x) (nolim : s.heap.NoLimit) (nogen : s.gens = #[])
    (at_ : s.heap.get? a = some { cls := .type "list", data := .seq us.toArray }) (hints : IntsAre us ns) (few : ns.length ≤ sizeLine) (room : RoomZ k callerA)
    (F : ∀ base : Heap, K.In base → base.Ns mainGlobals mg → FnG P w K mg base CX k fa fd [x] sp) (bd : ∀ (s : Shared) (u : Value), BindsTo s fd ⟨[u], []⟩ [(x, u)])
    (keeps : ∀ H : Hp, Only H → SqL K H a (ns.map V.int) → sp [.ref a] H (fun v _ => v = .bl true) fun _ _ _ => False) (noex : ∀ H e s', CX [] H s (fun _ _ _ => False) e s' → False) :
    codeAny (model P w) callerA (.call (.ref fa) ⟨[.ref a], []⟩) (fun r s' => r = .ok (.ret (.bool true)) ∧ OldK s.heap s'.heap ∧ s'.os = s.os ∧ AllBare s'.gens) s := by
  obtain ⟨H, B⟩ := begin_ (P := P) (w := w) KX at_ hints few
  have apart : ∀ b o, s.heap.get? b = some o → b ≠ a → (hidT s.heap H).get? b = some o := fun b o e q => hidT_get e (Classical.byContradiction fun z => q (B.alone b z))
  have dictApart : ∀ (b : Addr) (m : Str → Option Value), s.heap.Ns b m → (hidT s.heap H).Ns b m := by
    rintro b m ⟨o, es, ep, e, d, r⟩
    refine ⟨o, es, ep, apart b o e fun q => ?_, d, r⟩
    rw [q, at_] at e
    cases e
    exact Data.noConfusion (show Data.seq us.toArray _ = Data.dict es ep from d)
  have Kin : K.In (hidT s.heap H) := fun b o e => hidT_get (KX b o e) (Classical.byContradiction fun z => by
    have q := B.alone b z
    rw [q] at e z
    rw [B.away z] at e
    cases e)
  have md : Mod K mg (hidT s.heap H) := ⟨Kin, dictApart _ _ gns, ⟨mb, dictApart _ _ bns, boot⟩, nolim.elim fun mc q => ⟨mc, dictApart _ _ q.1, q.2⟩⟩
  have env : Env0 P w K mg (hidT s.heap H) callerA [] s H := ⟨rfl, md, fun _ _ e => of_hidT e, Nat.le_of_eq (hidT_size _ _), trivial, fun b q => absurd (show b ∈ ([] : List Addr) from q) (List.not_mem_nil), B.hok, .of_eq nogen⟩
  have run := (F _ Kin (dictApart _ _ gns)).run callerA [] s H ⟨[.ref a], []⟩ [.ref a] [.ref a] _ _ room rfl env (bd s (.ref a)) (.cons rfl .nil) (keeps H B.frozen B.script)
  refine codeAny_mono run fun r s' back => ?_
  match r, back with
  | .error e, back => exact (noex H e s' back).elim
  | .ok .next, back => exact back.elim
  | .ok .brk, back => exact back.elim
  | .ok .cont, back => exact back.elim
  | .ok (.ret u), ⟨v, H', os, bare, un, hok', rv, isT⟩ =>
    have isT' : v = .bl true := isT
    rw [isT'] at rv
    have eu : u = Value.bool true := rv
    refine ⟨by rw [eu], OldK.of_keep fun b o e => ?_, os, bare⟩
    rcases B.frozen b with q | ⟨ob, xs, q⟩
    · exact un.keep b o e q (fun z => absurd (show b ∈ ([] : List Addr) from z) (List.not_mem_nil)) (by simp)
    · have now := (hok' b _ (un.frzs b ob _ q)).1
      have was := (B.hok b _ q).1
      rw [was] at e
      cases e
      exact now
/-- a law whose defs the look accepts: its value is all that is left -/
theorem walkZ {l : PySem.W.OpenLaw} {n : Nat} {q : Program} {loose : List Str} {XP : (Str → Option Value) → Heap → Prop} {d : DefRec} (t : Txt) (shr : Nat → Bool) (wf depth steps f : Nat) (dd : DD) (x : Str)
    (hn : l.most = some n) (hn2 : n ≤ sizeLine) (hdf : d.params.defaults = []) (ok : t.ok = true) (hf : t.defs[f]? = some dd) (hname : dd.d.at_ = (d.name, none)) (hps : dd.N.take dd.md.ar = [x]) (har : dd.md.ar = 1) (nh : t.hots = []) (hr : RoomZ (depth + 30) callerA)
    (law : ∀ ns : List Int, ns.length ≤ n → ∃ st, (t.prog shr wf).cal depth f [.pv (.scr ns)] [] = some (.ok (.pv (.bl true)) st)) :
    PySem.W.WalkO q loose XP (hookZ steps t.fa t.fn t.ck t.dts).says l.row.toRowW d [] (fun f vs => PySem.call f vs) := by
  refine Att.attach_call hn hdf fun w s₀ s₁ mg mb fa o pm cd doc a vs ns Gd Y ho hd hcd hmg hobj hints hlen hg => ?_
  obtain ⟨K, KX, c⟩ := Y
  have Y : Says t w K s₁.heap mg := ⟨KX, Gd.T.g, c.z.d, c.z.own, fun q hq => c.dt hq, ok⟩
  have key := fun base => (defs_ok (P := l.prog) (w := w) (base := base) (shr := shr) (wf := wf) Y nh depth).1 f dd hf
  obtain ⟨fd, D⟩ := key s₁.heap
  have hm := Y.defAt hf
  have efa : fa = He.fAd K dd.d.at_ := by
    rw [hname] at hm ⊢
    have := hmg.symm.trans hm
    cases this
    rfl
  have hfn : ∀ base : Heap, K.In base → base.Ns mainGlobals mg → FnG l.prog w K mg base (L2N.CX l.prog w) (depth + 30) fa fd [x] (spOf (t.nm K) K ((t.prog shr wf).cal depth f) 1) := fun base _ _ => by
    obtain ⟨fd', D'⟩ := key base
    have e : fd' = fd := by
      obtain ⟨_, _, _, _, _, _, _, _, _, _, e1, l1, _⟩ := D.fun_.ex
      obtain ⟨_, _, _, _, _, _, _, _, _, _, e2, l2, _⟩ := D'.fun_.ex
      rw [l1] at l2
      cases l2
      rfl
    subst e
    rw [efa, ← hps, ← har]
    exact D'.ok
  refine law_run KX Gd.T.g Gd.T.b Gd.T.builtins Gd.T.nolimit hg hobj hints (Nat.le_trans hlen hn2) hr hfn (fun s u => ?_) (fun H hO hS => ?_) fun H e s' z => ?_
  · exact FunD.bindsA (ps := [x]) D.fun_ (fun kV doc pm an cdv ct us hl => by
      rw [← hps] at hl ⊢
      exact ((TxtOk.of ok).defs dd (List.mem_of_getElem? hf)).binds hl) s [u] rfl
  · obtain ⟨st, hst⟩ := law ns hlen
    refine ⟨rfl, H, [], [], [.pv (.scr ns)], _, ⟨Sub.refl H, rfl, List.nodup_nil, fun n a c e _ => by simp at e⟩, ?_, hst, ?_⟩
    · simp only [RLs, RL, RP]
      exact ⟨_, [], rfl, ⟨a, rfl, hS⟩, rfl⟩
    · intro F' ρ' H' v g h r
      simpa only [RL, RP] using r
  · obtain ⟨_, _, _, _, _, _, _, _, _, _, _, _, h⟩ := z
    exact h
end Z
end

section
/-! ZU: the laws' own draws. -/
namespace Z
def drawMD : MD := ⟨2, 5, [.iff (.boolop true [.cmp .eq (.idx (.var 0) (.lit (.int 2))) (.lit (.int 0)), .cmp .lt (.idx (.var 0) (.lit (.int 1))) (.bi .len [.idx (.var 0) (.lit (.int 0))])]) [.asg (.nm 3) (.bi .abs [.bi .int [.idx (.idx (.var 0) (.lit (.int 0))) (.idx (.var 0) (.lit (.int 1)))]]), .augI (.var 0) (.lit (.int 1)) .add (.lit (.int 1)), .iff (.cmp .ge (.var 3) (.bin .pow (.lit (.int 10)) (.lit (.int 18)))) [.asgI (.var 0) (.lit (.int 2)) (.var 3)] [.asgI (.var 0) (.lit (.int 3)) (.bin .mod (.bi .int [.bin .add (.bin .add (.bin .mul (.idx (.var 0) (.lit (.int 3))) (.lit (.int 48271))) (.bin .mul (.var 3) (.lit (.int 69621)))) (.idx (.var 0) (.lit (.int 1)))]) (.lit (.int 2147483647)))]] [], .iff (.cmp .gt (.idx (.var 0) (.lit (.int 2))) (.lit (.int 0))) [.asg (.nm 4) (.bin .mod (.bi .int [.idx (.var 0) (.lit (.int 2))]) (.var 1)), .asgI (.var 0) (.lit (.int 2)) (.bin .fdiv (.idx (.var 0) (.lit (.int 2))) (.var 1)), .ret (.var 4)] [], .asgI (.var 0) (.lit (.int 3)) (.bin .mod (.bi .int [.bin .add (.bin .mul (.idx (.var 0) (.lit (.int 3))) (.lit (.int 16807))) (.lit (.int 12345))]) (.lit (.int 2147483647))), .asg (.nm 2) (.bin .mod (.bi .int [.bin .add (.bin .mul (.idx (.var 0) (.lit (.int 3))) (.idx (.var 0) (.lit (.int 3)))) (.idx (.var 0) (.lit (.int 3)))]) (.lit (.int 2147483629))), .ret (.bin .mod (.bin .fdiv (.var 2) (.lit (.int 11))) (.var 1))]⟩
def feedC (ns : List Int) (i b s : Int) : Cell := .lst true [.pv (.lst (ns.map .int)), .pv (.int i), .pv (.int b), .pv (.int s)]
structure FeedOk (i₀ b₀ s₀ : Int) : Prop where
  i : 0 ≤ i₀
  b : 0 ≤ b₀
  s : 0 ≤ s₀
  t : s₀ < 2147483647
section
variable {ns : List Int} {i b s : Int} {r : Nat} {st : Store} {φ : Slots}
theorem gd0 (h : st[r]? = some (feedC ns i b s)) : getI (.ref r) (.pv (.int 0)) st = some (.ok (.pv (.lst (ns.map .int))) st) := by
  simp only [getI, h, feedC]; simp [atI, ixN]
theorem gd1 (h : st[r]? = some (feedC ns i b s)) : getI (.ref r) (.pv (.int 1)) st = some (.ok (.pv (.int i)) st) := by
  simp only [getI, h, feedC]; simp [atI, ixN]
theorem gd2 (h : st[r]? = some (feedC ns i b s)) : getI (.ref r) (.pv (.int 2)) st = some (.ok (.pv (.int b)) st) := by
  simp only [getI, h, feedC]; simp [atI, ixN]
theorem gd3 (h : st[r]? = some (feedC ns i b s)) : getI (.ref r) (.pv (.int 3)) st = some (.ok (.pv (.int s)) st) := by
  simp only [getI, h, feedC]; simp [atI, ixN]
theorem fs1 {v : Int} (h : st[r]? = some (feedC ns i b s)) : setI (.ref r) (.pv (.int 1)) (.pv (.int v)) st = some (st.set r (feedC ns v b s)) := by
  simp [setI, h, feedC, ixN]
theorem fs2 {v : Int} (h : st[r]? = some (feedC ns i b s)) : setI (.ref r) (.pv (.int 2)) (.pv (.int v)) st = some (st.set r (feedC ns i v s)) := by
  simp [setI, h, feedC, ixN]
theorem fs3 {v : Int} (h : st[r]? = some (feedC ns i b s)) : setI (.ref r) (.pv (.int 3)) (.pv (.int v)) st = some (st.set r (feedC ns i b v)) := by
  simp [setI, h, feedC, ixN]
theorem fset {c c' : Cell} (h : st[r]? = some c) : (st.set r c')[r]? = some c' := List.getElem?_set_self (List.getElem?_eq_some_iff.mp h).1
/-- the state behind the first branch -/
def takeI (ns : List Int) (i b s : Int) : Int × Int × Int := if b = 0 ∧ i < ns.length then
    (if 10 ^ 18 ≤ (if (ns[i.toNat]?).getD 0 < 0 then -(ns[i.toNat]?).getD 0 else (ns[i.toNat]?).getD 0) then (i + 1, (if (ns[i.toNat]?).getD 0 < 0 then -(ns[i.toNat]?).getD 0 else (ns[i.toNat]?).getD 0), s)
    else (i + 1, b, (s * 48271 + (if (ns[i.toNat]?).getD 0 < 0 then -(ns[i.toNat]?).getD 0 else (ns[i.toNat]?).getD 0) * 69621 + (i + 1)) % 2147483647))
  else (i, b, s)
/-- what is drawn, the state behind it -/
def drawI (ns : List Int) (i b s m : Int) : Int × Int × Int × Int :=
  if 0 < (takeI ns i b s).2.1 then ((takeI ns i b s).2.1 % m, (takeI ns i b s).1, (takeI ns i b s).2.1 / m, (takeI ns i b s).2.2)
  else ((((takeI ns i b s).2.2 * 16807 + 12345) % 2147483647 * (((takeI ns i b s).2.2 * 16807 + 12345) % 2147483647) + ((takeI ns i b s).2.2 * 16807 + 12345) % 2147483647) % 2147483629 / 11 % m, (takeI ns i b s).1, (takeI ns i b s).2.1, ((takeI ns i b s).2.2 * 16807 + 12345) % 2147483647)
/-- the first branch: a number of the script is taken -/
theorem draw_take {m : Int} (h : st[r]? = some (feedC ns i b s)) (o : FeedOk i b s) : ∃ φ' i' b' s', takeI ns i b s = (i', b', s') ∧ FeedOk i' b' s' ∧ φ'[0]? = some (some (.ref r)) ∧ φ'[1]? = some (some (.pv (.int m))) ∧ φ'.length = 5 ∧ ∀ S : Sem,
    exS S (drawMD.body.getD 0 .pass) [some (.ref r), some (.pv (.int m)), none, none, none] st = some (.nx φ' (st.set r (feedC ns i' b' s'))) := by
  obtain ⟨φ, hφ⟩ : ∃ φ : Slots, φ = [some (.ref r), some (.pv (.int m)), none, none, none] := ⟨_, rfl⟩
  have h0 : φ[0]? = some (some (.ref r)) := by rw [hφ]; rfl
  have same : st.set r (feedC ns i b s) = st := by
    apply List.ext_getElem?
    intro j
    by_cases hj : r = j
    · subst hj; rw [fset h, h]
    · rw [List.getElem?_set_ne hj]
  have test : ∀ S : Sem, evT S (.boolop true [.cmp .eq (.idx (.var 0) (.lit (.int 2))) (.lit (.int 0)), .cmp .lt (.idx (.var 0) (.lit (.int 1))) (.bi .len [.idx (.var 0) (.lit (.int 0))])]) φ st = some (.ok (decide (b = 0) && decide (i < ns.length)) st) := by
    intro S
    simp only [evT, evBT, evE, evEs, h0, gd0 h, gd1 h, gd2 h, R.bind, R.bt, T.bt, R.bs, Rs.bs, Rs.bind, lenB, lenL, peeks, peek, Option.map_some, doBI, okP, cmpT, doCmp, opEq, eqOk, dep, eqP, List.length_map]
    by_cases hb : b = 0
    · subst hb; simp [maxDep, gd0 h, gd1 h, peeks, peek, doBI, okP, doCmp]
    · simp [maxDep, hb]
  have body : ∀ S : Sem, exS S (drawMD.body.getD 0 .pass) φ st = T.bf φ (evT S (.boolop true [.cmp .eq (.idx (.var 0) (.lit (.int 2))) (.lit (.int 0)), .cmp .lt (.idx (.var 0) (.lit (.int 1))) (.bi .len [.idx (.var 0) (.lit (.int 0))])]) φ st) fun d st => if d then exSs S [.asg (.nm 3) (.bi .abs [.bi .int [.idx (.idx (.var 0) (.lit (.int 0))) (.idx (.var 0) (.lit (.int 1)))]]), .augI (.var 0) (.lit (.int 1)) .add (.lit (.int 1)), .iff (.cmp .ge (.var 3) (.bin .pow (.lit (.int 10)) (.lit (.int 18)))) [.asgI (.var 0) (.lit (.int 2)) (.var 3)] [.asgI (.var 0) (.lit (.int 3)) (.bin .mod (.bi .int [.bin .add (.bin .add (.bin .mul (.idx (.var 0) (.lit (.int 3))) (.lit (.int 48271))) (.bin .mul (.var 3) (.lit (.int 69621)))) (.idx (.var 0) (.lit (.int 1)))]) (.lit (.int 2147483647)))]] φ st else exSs S [] φ st := fun _ => rfl
  rw [← hφ]
  by_cases hd : b = 0 ∧ i < ns.length
  · obtain ⟨hb, hi⟩ := hd
    have e : (decide (b = 0) && decide (i < ns.length)) = true := by simp [hb, hi]
    have hin : i.toNat < ns.length := by have := o.i; omega
    obtain ⟨z, hz⟩ : ∃ z, ns[i.toNat]? = some z := ⟨_, List.getElem?_eq_getElem hin⟩
    have hat : atI (ns.map PV.int) i = some (.int z) := by
      unfold atI ixN
      rw [if_pos o.i, if_pos (by rw [List.length_map]; exact hi)]
      simp [hz]
    obtain ⟨c, hc⟩ : ∃ c : Int, c = if z < 0 then -z else z := ⟨_, rfl⟩
    have hc0 : 0 ≤ c := by rw [hc]; split <;> omega
    have e1 : ∀ S : Sem, exS S (.asg (.nm 3) (.bi .abs [.bi .int [.idx (.idx (.var 0) (.lit (.int 0))) (.idx (.var 0) (.lit (.int 1)))]])) φ st = some (.nx (φ.set 3 (some (.pv (.int c)))) st) := by
      intro S
      have gl : getI (.pv (.lst (ns.map .int))) (.pv (.int i)) st = some (.ok (.pv (.int z)) st) := by simp only [getI, doIdx, hat, okP]
      simp only [exS, evE, evEs, h0, gd0 h, gd1 h, gl, R.bind, R.bs, Rs.bs, Rs.bind, R.bf, okP, lenB, lenL, peeks, peek, Option.map_some, doBI, asgG, ← hc]
    have h0' : (φ.set 3 (some (.pv (.int c))))[0]? = some (some (.ref r)) := by rw [hφ]; rfl
    have h3' : (φ.set 3 (some (.pv (.int c))))[3]? = some (some (.pv (.int c))) := by rw [hφ]; rfl
    have e3 : ∀ S : Sem, exS S (.augI (.var 0) (.lit (.int 1)) .add (.lit (.int 1))) (φ.set 3 (some (.pv (.int c)))) st = some (.nx (φ.set 3 (some (.pv (.int c)))) (st.set r (feedC ns (i + 1) b s))) := by
      intro S
      have hg := gd1 h
      simp only [exS, evE, h0', R.bf, hg, augOp, peek, doAug, doBin, okP, fs1 h, Option.map_some]
    have hst1 : (st.set r (feedC ns (i + 1) b s))[r]? = some (feedC ns (i + 1) b s) := fset h
    have e4 : ∀ S : Sem, evT S (.cmp .ge (.var 3) (.bin .pow (.lit (.int 10)) (.lit (.int 18)))) (φ.set 3 (some (.pv (.int c)))) (st.set r (feedC ns (i + 1) b s)) = some (.ok (decide (10 ^ 18 ≤ c)) (st.set r (feedC ns (i + 1) b s))) := by
      intro S
      simp only [evT, evE, h3', R.bt, R.bind, bin, peek, doBin, powOk, okP, cmpT, doCmp, Option.map_some]
      simp
    have seq : ∀ (S : Sem) s1 ss φ st φ1 st1, exS S s1 φ st = some (.nx φ1 st1) → exSs S (s1 :: ss) φ st = exSs S ss φ1 st1 := fun S s1 ss φ st φ1 st1 e => by simp only [exSs, e]
    by_cases hge : (10 : Int) ^ 18 ≤ c
    · refine ⟨φ.set 3 (some (.pv (.int c))), i + 1, c, s, (by unfold takeI; rw [if_pos ⟨hb, hi⟩, hz, Option.getD_some, ← hc, if_pos hge]), ⟨by have := o.i; omega, hc0, o.s, o.t⟩, h0', by rw [hφ]; rfl, by rw [hφ]; rfl, fun S => ?_⟩
      rw [body S, test S, e]
      simp only [T.bf, if_true]
      rw [seq _ _ _ _ _ _ _ (e1 S), seq _ _ _ _ _ _ _ (e3 S)]
      simp only [exSs, exS, e4 S, T.bf, decide_eq_true hge, if_true]
      simp only [evE, h3', h0', R.bf, fs2 hst1, Option.map_some, List.set_set]
    · refine ⟨φ.set 3 (some (.pv (.int c))), i + 1, b, (s * 48271 + c * 69621 + (i + 1)) % 2147483647, (by unfold takeI; rw [if_pos ⟨hb, hi⟩, hz, Option.getD_some, ← hc, if_neg hge]), ⟨by have := o.i; omega, o.b, Int.emod_nonneg _ (by decide), Int.emod_lt_of_pos _ (by decide)⟩, h0', by rw [hφ]; rfl, by rw [hφ]; rfl, fun S => ?_⟩
      rw [body S, test S, e]
      simp only [T.bf, if_true]
      rw [seq _ _ _ _ _ _ _ (e1 S), seq _ _ _ _ _ _ _ (e3 S)]
      have m1 : mulOk s 48271 = true := by simp [mulOk]
      have m2 : mulOk c 69621 = true := by simp [mulOk]
      simp only [exSs, exS, e4 S, T.bf, decide_eq_false hge, Bool.false_eq_true, if_false]
      have ev : evE S (.bin .mod (.bi .int [.bin .add (.bin .add (.bin .mul (.idx (.var 0) (.lit (.int 3))) (.lit (.int 48271))) (.bin .mul (.var 3) (.lit (.int 69621)))) (.idx (.var 0) (.lit (.int 1)))]) (.lit (.int 2147483647))) (φ.set 3 (some (.pv (.int c)))) (st.set r (feedC ns (i + 1) b s)) = some (.ok (.pv (.int ((s * 48271 + c * 69621 + (i + 1)) % 2147483647))) (st.set r (feedC ns (i + 1) b s))) := by
        have g1 := gd1 hst1
        have g3 := gd3 hst1
        simp only [evE, evEs, h0', h3', R.bind, R.bs, Rs.bs, Rs.bind, g1, g3, bin, lenB, lenL, peek, peeks, doBin, m1, m2, if_true, okP, Option.map_some, doBI]
        simp
      rw [ev]
      simp only [R.bf, evE, h0', fs3 hst1, Option.map_some, List.set_set]
  · have e : (decide (b = 0) && decide (i < ns.length)) = false := by
      simp only [Bool.and_eq_false_iff, decide_eq_false_iff_not]
      by_cases hb : b = 0
      · exact .inr fun z => hd ⟨hb, z⟩
      · exact .inl hb
    refine ⟨φ, i, b, s, (by unfold takeI; rw [if_neg hd]), o, h0, by rw [hφ]; rfl, by rw [hφ]; rfl, fun S => ?_⟩
    rw [body S, test S, e]
    simp only [T.bf, Bool.false_eq_true, if_false, exSs, same]
theorem draw_ok {m : Int} (h : st[r]? = some (feedC ns i b s)) (o : FeedOk i b s) (hm : 0 < m) (hm2 : m < 1073741824) : ∃ v i' b' s', drawI ns i b s m = (v, i', b', s') ∧ FeedOk i' b' s' ∧ 0 ≤ v ∧ v < m ∧ ∀ S : Sem,
    drawMD.run S [.ref r, .pv (.int m)] st = some (.ok (.pv (.int v)) (st.set r (feedC ns i' b' s'))) := by
  obtain ⟨φ, i1, b1, s1, et, o1, h0, h1, hl, e1⟩ := draw_take (m := m) h o
  have hst : (st.set r (feedC ns i1 b1 s1))[r]? = some (feedC ns i1 b1 s1) := fset h
  have seq : ∀ (S : Sem) s1 ss φ st φ1 st1, exS S s1 φ st = some (.nx φ1 st1) → exSs S (s1 :: ss) φ st = exSs S ss φ1 st1 := fun S s1 ss φ st φ1 st1 e => by simp only [exSs, e]
  have run : ∀ S : Sem, drawMD.run S [.ref r, .pv (.int m)] st = endR (exSs S drawMD.body [some (.ref r), some (.pv (.int m)), none, none, none] st) := fun _ => rfl
  have body : drawMD.body = drawMD.body.getD 0 .pass :: drawMD.body.tail := rfl
  obtain ⟨st1, hst1⟩ : ∃ st1, st1 = st.set r (feedC ns i1 b1 s1) := ⟨_, rfl⟩
  rw [← hst1] at hst
  have g2 := gd2 hst
  have g3 := gd3 hst
  have t1 : ∀ S : Sem, evT S (.cmp .gt (.idx (.var 0) (.lit (.int 2))) (.lit (.int 0))) φ st1 = some (.ok (decide (0 < b1)) st1) := by
    intro S
    simp only [evT, evE, h0, R.bt, R.bind, g2, cmpT, peek, doCmp, Option.map_some]
  have dv : divOk m = true := by simp [divOk, hm, hm2]
  by_cases hb : 0 < b1
  · refine ⟨b1 % m, i1, b1 / m, s1, (by unfold drawI; rw [et]; simp only; rw [if_pos hb]), ⟨o1.i, Int.ediv_nonneg o1.b (by omega), o1.s, o1.t⟩, Int.emod_nonneg _ (by omega), Int.emod_lt_of_pos _ hm, fun S => ?_⟩
    rw [run S, body, seq _ _ _ _ _ _ _ (e1 S), ← hst1]
    have p0 : (φ.set 4 (some (.pv (.int (b1 % m)))))[0]? = some (some (.ref r)) := by rw [List.getElem?_set_ne (by decide)]; exact h0
    have p1 : (φ.set 4 (some (.pv (.int (b1 % m)))))[1]? = some (some (.pv (.int m))) := by rw [List.getElem?_set_ne (by decide)]; exact h1
    have p4 : (φ.set 4 (some (.pv (.int (b1 % m)))))[4]? = some (some (.pv (.int (b1 % m)))) := List.getElem?_set_self (by omega)
    show endR (exSs S (.iff (.cmp .gt (.idx (.var 0) (.lit (.int 2))) (.lit (.int 0))) [.asg (.nm 4) (.bin .mod (.bi .int [.idx (.var 0) (.lit (.int 2))]) (.var 1)), .asgI (.var 0) (.lit (.int 2)) (.bin .fdiv (.idx (.var 0) (.lit (.int 2))) (.var 1)), .ret (.var 4)] [] :: _) φ st1) = _
    simp only [exSs, exS, t1 S, T.bf, decide_eq_true hb, if_true]
    simp only [evE, evEs, h0, h1, g2, R.bind, R.bs, Rs.bs, Rs.bind, R.bf, lenB, lenL, peeks, peek, Option.map_some, doBI, okP, bin, doBin, hm, if_true, asgG]
    simp only [p0, p1, p4, g2, dv, if_true, okP, fs2 hst, Option.map_some, R.bf, endR]
    rw [hst1, List.set_set]
  · obtain ⟨s2, hs2⟩ : ∃ s2, s2 = (s1 * 16807 + 12345) % 2147483647 := ⟨_, rfl⟩
    have o2 : FeedOk i1 b1 s2 := ⟨o1.i, o1.b, by rw [hs2]; exact Int.emod_nonneg _ (by decide), by rw [hs2]; exact Int.emod_lt_of_pos _ (by decide)⟩
    refine ⟨(s2 * s2 + s2) % 2147483629 / 11 % m, i1, b1, s2, (by unfold drawI; rw [et]; simp only; rw [if_neg hb, hs2]), o2, Int.emod_nonneg _ (by omega), Int.emod_lt_of_pos _ hm, fun S => ?_⟩
    rw [run S, body, seq _ _ _ _ _ _ _ (e1 S), ← hst1]
    have m1 : mulOk s1 16807 = true := by simp [mulOk]
    have m2 : mulOk s2 s2 = true := by
      have h1 := o2.s
      have h2 := o2.t
      have a1 : decide (-(2 ^ 64 : Int) < s2) = true := decide_eq_true (by omega)
      have a2 : decide (s2 < (2 ^ 64 : Int)) = true := decide_eq_true (by omega)
      unfold mulOk
      rw [a1, a2]; rfl
    have hst2 : (st1.set r (feedC ns i1 b1 s2))[r]? = some (feedC ns i1 b1 s2) := fset hst
    have g3' := gd3 hst2
    have e2 : exS S (.asgI (.var 0) (.lit (.int 3)) (.bin .mod (.bi .int [.bin .add (.bin .mul (.idx (.var 0) (.lit (.int 3))) (.lit (.int 16807))) (.lit (.int 12345))]) (.lit (.int 2147483647)))) φ st1 = some (.nx φ (st1.set r (feedC ns i1 b1 s2))) := by
      have ev : evE S (.bin .mod (.bi .int [.bin .add (.bin .mul (.idx (.var 0) (.lit (.int 3))) (.lit (.int 16807))) (.lit (.int 12345))]) (.lit (.int 2147483647))) φ st1 = some (.ok (.pv (.int s2)) st1) := by
        simp only [evE, evEs, h0, g3, R.bind, R.bs, Rs.bs, Rs.bind, bin, lenB, lenL, peek, peeks, doBin, m1, if_true, okP, Option.map_some, doBI]
        rw [hs2]; simp
      simp only [exS, ev, R.bf]
      simp only [evE, h0, R.bf, fs3 hst, Option.map_some]
    have e3 : exS S (.asg (.nm 2) (.bin .mod (.bi .int [.bin .add (.bin .mul (.idx (.var 0) (.lit (.int 3))) (.idx (.var 0) (.lit (.int 3)))) (.idx (.var 0) (.lit (.int 3)))]) (.lit (.int 2147483629)))) φ (st1.set r (feedC ns i1 b1 s2)) = some (.nx (φ.set 2 (some (.pv (.int ((s2 * s2 + s2) % 2147483629))))) (st1.set r (feedC ns i1 b1 s2))) := by
      simp only [exS, evE, evEs, h0, g3', R.bind, R.bs, Rs.bs, Rs.bind, R.bf, bin, lenB, lenL, peek, peeks, doBin, m2, if_true, okP, Option.map_some, doBI, asgG]
      simp
    have p1 : (φ.set 2 (some (.pv (.int ((s2 * s2 + s2) % 2147483629)))))[1]? = some (some (.pv (.int m))) := by rw [List.getElem?_set_ne (by decide)]; exact h1
    have p2 : (φ.set 2 (some (.pv (.int ((s2 * s2 + s2) % 2147483629)))))[2]? = some (some (.pv (.int ((s2 * s2 + s2) % 2147483629)))) := List.getElem?_set_self (by omega)
    have dv11 : divOk 11 = true := by decide
    have e0 : exS S (.iff (.cmp .gt (.idx (.var 0) (.lit (.int 2))) (.lit (.int 0))) [.asg (.nm 4) (.bin .mod (.bi .int [.idx (.var 0) (.lit (.int 2))]) (.var 1)), .asgI (.var 0) (.lit (.int 2)) (.bin .fdiv (.idx (.var 0) (.lit (.int 2))) (.var 1)), .ret (.var 4)] []) φ st1 = some (.nx φ st1) := by
      simp only [exS, t1 S, T.bf, decide_eq_false hb, Bool.false_eq_true, if_false, exSs]
    show endR (exSs S (.iff _ _ _ :: .asgI _ _ _ :: .asg _ _ :: [.ret (.bin .mod (.bin .fdiv (.var 2) (.lit (.int 11))) (.var 1))]) φ st1) = _
    rw [seq _ _ _ _ _ _ _ e0, seq _ _ _ _ _ _ _ e2, seq _ _ _ _ _ _ _ e3]
    simp only [exSs, exS, evE, p1, p2, R.bind, R.bf, bin, peek, doBin, dv11, hm, if_true, okP, endR]
    rw [hst1, List.set_set]
/-! ### the feed as a value -/
structure Fd where
  ns : List Int
  i : Int
  b : Int
  s : Int
  ok : FeedOk i b s
def Fd.cell (F : Fd) : Cell := feedC F.ns F.i F.b F.s
theorem Fd.at0 (F : Fd) : ([F.cell] : Store)[0]? = some (feedC F.ns F.i F.b F.s) := rfl
/-- what is drawn, the feed behind it -/
def Fd.draw (F : Fd) (m : Int) : Int × Fd := if h : 0 < m ∧ m < 1073741824 then
    ((drawI F.ns F.i F.b F.s m).1, ⟨F.ns, (drawI F.ns F.i F.b F.s m).2.1, (drawI F.ns F.i F.b F.s m).2.2.1, (drawI F.ns F.i F.b F.s m).2.2.2, by
      obtain ⟨v, i, b, s, e, o, _⟩ := draw_ok F.at0 F.ok h.1 h.2
      rw [e]; exact o⟩)
  else (0, F)
theorem Fd.draw_spec (F : Fd) {m : Int} (h1 : 0 < m) (h2 : m < 1073741824) : 0 ≤ (F.draw m).1 ∧ (F.draw m).1 < m ∧ ∀ (S : Sem) (st : Store) (r : Nat), st[r]? = some F.cell → drawMD.run S [.ref r, .pv (.int m)] st = some (.ok (.pv (.int (F.draw m).1)) (st.set r (F.draw m).2.cell)) := by
  unfold Fd.draw
  rw [dif_pos ⟨h1, h2⟩]
  obtain ⟨v, i, b, s, e, o, k1, k2, _⟩ := draw_ok F.at0 F.ok h1 h2
  refine ⟨by show 0 ≤ (drawI F.ns F.i F.b F.s m).1; rw [e]; exact k1, by show (drawI F.ns F.i F.b F.s m).1 < m; rw [e]; exact k2, fun S st r hr => ?_⟩
  obtain ⟨v', i', b', s', e', o', k1', k2', run⟩ := draw_ok (m := m) hr F.ok h1 h2
  rw [run S]
  simp only [Fd.cell]
  rw [e']
end
end Z
end

section
/-! ZV: running defs in plain Lean. -/
namespace Z
/-! ### the semantics as rewriting; what stands behind is looked at last -/
/-- a type that names what it does not use: so simp leaves what stands behind alone -/
abbrev At {α : Type} (_ : α) (β : Type) : Type := β
def R.bK (k : LV → Store → Option ER) (a : At k (Option ER)) : Option ER := R.bind a k
def R.bsK (k : LV → Store → Option ERs) (a : At k (Option ER)) : Option ERs := R.bs a k
def R.btK (k : LV → Store → Option ET) (a : At k (Option ER)) : Option ET := R.bt a k
def R.bfK (φ : Slots) (k : LV → Store → Option FR) (a : At k (Option ER)) : Option FR := R.bf φ a k
def Rs.bK (k : List LV → Store → Option ER) (a : At k (Option ERs)) : Option ER := Rs.bind a k
def Rs.bsK (k : List LV → Store → Option ERs) (a : At k (Option ERs)) : Option ERs := Rs.bs a k
def Rs.bfK (φ : Slots) (k : List LV → Store → Option FR) (a : At k (Option ERs)) : Option FR := Rs.bf φ a k
def T.bK (k : Bool → Store → Option ER) (a : At k (Option ET)) : Option ER := T.bind a k
def T.btK (k : Bool → Store → Option ET) (a : At k (Option ET)) : Option ET := T.bt a k
def T.bfK (φ : Slots) (k : Bool → Store → Option FR) (a : At k (Option ET)) : Option FR := T.bf φ a k
def seqO (r : Option FR) (k : Slots → Store → Option FR) : Option FR := match r with
  | some (.nx φ st) => k φ st
  | r => r
def seqS (k : Slots → Store → Option FR) (a : At k (Option FR)) : Option FR := seqO a k
@[simp] theorem seqS_nx (φ : Slots) (st : Store) (k) : seqS (a := some (.nx φ st)) k = k φ st := Eq.trans rfl rfl
@[simp] theorem seqS_rt (v : LV) (st : Store) (k) : seqS (a := some (.rt v st)) k = some (.rt v st) := Eq.trans rfl rfl
@[simp] theorem seqS_ex (e : Ex) (φ : Slots) (st : Store) (k) : seqS (a := some (.ex e φ st)) k = some (.ex e φ st) := Eq.trans rfl rfl
@[simp] theorem seqS_bk (φ : Slots) (st : Store) (k) : seqS (a := some (.bk φ st)) k = some (.bk φ st) := Eq.trans rfl rfl
@[simp] theorem seqS_ct (φ : Slots) (st : Store) (k) : seqS (a := some (.ct φ st)) k = some (.ct φ st) := Eq.trans rfl rfl
@[simp] theorem seqS_ite (c : Prop) [Decidable c] (a b) (k) : seqS (a := if c then a else b) k = if c then seqS k a else seqS k b := by split <;> rfl
@[simp] theorem exSs_nil (S : Sem) (φ : Slots) (st : Store) : exSs S [] φ st = some (.nx φ st) := Eq.trans rfl rfl
@[simp] theorem exSs_cons (S : Sem) (s : MS) (ss : List MS) (φ : Slots) (st : Store) : exSs S (s :: ss) φ st = seqS (a := exS S s φ st) (exSs S ss) := Eq.trans rfl rfl
section
variable {φ : Slots} {st : Store} {v : LV} {vs : List LV} {e : Ex}
@[simp] theorem R.bind_ok (f) : R.bK (a := some (.ok v st)) f = f v st := Eq.trans rfl rfl
@[simp] theorem R.bind_ex (f) : R.bK (a := some (.ex e st)) f = some (.ex e st) := Eq.trans rfl rfl
@[simp] theorem R.bs_ok (f) : R.bsK (a := some (.ok v st)) f = f v st := Eq.trans rfl rfl
@[simp] theorem R.bs_ex (f) : R.bsK (a := some (.ex e st)) f = some (.ex e st) := Eq.trans rfl rfl
@[simp] theorem R.bt_ok (f) : R.btK (a := some (.ok v st)) f = f v st := Eq.trans rfl rfl
@[simp] theorem R.bt_ex (f) : R.btK (a := some (.ex e st)) f = some (.ex e st) := Eq.trans rfl rfl
@[simp] theorem R.bf_ok (f) : R.bfK φ (a := some (.ok v st)) f = f v st := Eq.trans rfl rfl
@[simp] theorem R.bf_ex (f) : R.bfK φ (a := some (.ex e st)) f = some (.ex e φ st) := Eq.trans rfl rfl
@[simp] theorem Rs.bind_ok (f) : Rs.bK (a := some (.ok vs st)) f = f vs st := Eq.trans rfl rfl
@[simp] theorem Rs.bind_ex (f) : Rs.bK (a := some (.ex e st)) f = some (.ex e st) := Eq.trans rfl rfl
@[simp] theorem Rs.bs_ok (f) : Rs.bsK (a := some (.ok vs st)) f = f vs st := Eq.trans rfl rfl
@[simp] theorem Rs.bs_ex (f) : Rs.bsK (a := some (.ex e st)) f = some (.ex e st) := Eq.trans rfl rfl
@[simp] theorem Rs.bf_ok (f) : Rs.bfK φ (a := some (.ok vs st)) f = f vs st := Eq.trans rfl rfl
@[simp] theorem Rs.bf_ex (f) : Rs.bfK φ (a := some (.ex e st)) f = some (.ex e φ st) := Eq.trans rfl rfl
@[simp] theorem T.bind_ok (b : Bool) (f) : T.bK (a := some (.ok b st)) f = f b st := Eq.trans rfl rfl
@[simp] theorem T.bind_ex (f) : T.bK (a := some (.ex e st)) f = some (.ex e st) := Eq.trans rfl rfl
@[simp] theorem T.bt_ok (b : Bool) (f) : T.btK (a := some (.ok b st)) f = f b st := Eq.trans rfl rfl
@[simp] theorem T.bt_ex (f) : T.btK (a := some (.ex e st)) f = some (.ex e st) := Eq.trans rfl rfl
@[simp] theorem T.bf_ok (b : Bool) (f) : T.bfK φ (a := some (.ok b st)) f = f b st := Eq.trans rfl rfl
@[simp] theorem T.bf_ex (f) : T.bfK φ (a := some (.ex e st)) f = some (.ex e φ st) := Eq.trans rfl rfl
/-- a list of arguments, evaluated -/
@[simp] theorem okP_some (p : PV) : okP st (some p) = some (.ok (.pv p) st) := Eq.trans rfl rfl
@[simp] theorem peek_pv (p : PV) : peek st (.pv p) = some p := Eq.trans rfl rfl
@[simp] theorem peeks_nil : peeks st [] = some [] := Eq.trans rfl rfl
@[simp] theorem peeks_pv (p : PV) (xs : List LV) : peeks st (.pv p :: xs) = (peeks st xs).map (p :: ·) := Eq.trans rfl rfl
@[simp] theorem truL_pv (p : PV) : truL (.pv p) st = tru p := Eq.trans rfl rfl
@[simp] theorem frz_pv (p : PV) : frz (.pv p) st = some (p, st) := Eq.trans rfl rfl
@[simp] theorem getI_pv (p i : PV) : getI (.pv p) (.pv i) st = okP st (doIdx p i) := Eq.trans rfl rfl
@[simp] theorem bin_pv (op : BO) (p q : PV) : bin op (.pv p) (.pv q) st = okP st (doBin op p q) := Eq.trans rfl rfl
@[simp] theorem cmp_pv (op : CO) (p q : PV) : cmp op (.pv p) (.pv q) st = (doCmp op p q).map fun c => .ok (.pv (.bl c)) st := Eq.trans rfl rfl
@[simp] theorem cmpT_pv (op : CO) (p q : PV) : cmpT op (.pv p) (.pv q) st = (doCmp op p q).map fun c => .ok c st := Eq.trans rfl rfl
@[simp] theorem augOp_pv (op : BO) (p q : PV) : augOp op (.pv p) (.pv q) st = okP st (doAug op p q) := Eq.trans rfl rfl
@[simp] theorem mkTup_nil : mkTup [] = .pv (.tup []) := Eq.trans rfl rfl
@[simp] theorem unpv_nil : unpv [] = some [] := Eq.trans rfl rfl
@[simp] theorem unpv_pv (p : PV) (xs : List LV) : unpv (.pv p :: xs) = (unpv xs).map (p :: ·) := Eq.trans rfl rfl
theorem mkTup_pv (ps : List PV) : mkTup (ps.map .pv) = .pv (.tup ps) := by unfold mkTup; rw [unpv_map]
@[simp] theorem mkTup1 (a : PV) : mkTup [.pv a] = .pv (.tup [a]) := Eq.trans rfl rfl
@[simp] theorem mkTup2 (a b : PV) : mkTup [.pv a, .pv b] = .pv (.tup [a, b]) := Eq.trans rfl rfl
@[simp] theorem mkTup3 (a b c : PV) : mkTup [.pv a, .pv b, .pv c] = .pv (.tup [a, b, c]) := Eq.trans rfl rfl
@[simp] theorem mkTup4 (a b c d : PV) : mkTup [.pv a, .pv b, .pv c, .pv d] = .pv (.tup [a, b, c, d]) := Eq.trans rfl rfl
@[simp] theorem mkTup5 (a b c d e : PV) : mkTup [.pv a, .pv b, .pv c, .pv d, .pv e] = .pv (.tup [a, b, c, d, e]) := Eq.trans rfl rfl
@[simp] theorem line1 : 1 ≤ line := by decide
@[simp] theorem line2 : 2 ≤ line := by decide
@[simp] theorem line3 : 3 ≤ line := by decide
@[simp] theorem line4 : 4 ≤ line := by decide
@[simp] theorem line5 : 5 ≤ line := by decide
@[simp] theorem line6 : 6 ≤ line := by decide
@[simp] theorem line7 : 7 ≤ line := by decide
@[simp] theorem line8 : 8 ≤ line := by decide
@[simp] theorem mkLst_nil : mkLst false [] st = some (.ok (.pv (.lst [])) st) := Eq.trans rfl rfl
theorem mkLst_pv {ps : List PV} (h : ps.length ≤ line) : mkLst false (ps.map .pv) st = some (.ok (.pv (.lst ps)) st) := by
  unfold mkLst
  rw [if_pos (by rw [List.length_map]; exact h), unpv_map]; rfl
@[simp] theorem mkLst1 (a : PV) : mkLst false [.pv a] st = some (.ok (.pv (.lst [a])) st) := Eq.trans rfl rfl
@[simp] theorem mkLst2 (a b : PV) : mkLst false [.pv a, .pv b] st = some (.ok (.pv (.lst [a, b])) st) := Eq.trans rfl rfl
@[simp] theorem mkLst3 (a b c : PV) : mkLst false [.pv a, .pv b, .pv c] st = some (.ok (.pv (.lst [a, b, c])) st) := Eq.trans rfl rfl
@[simp] theorem mkLst4 (a b c d : PV) : mkLst false [.pv a, .pv b, .pv c, .pv d] st = some (.ok (.pv (.lst [a, b, c, d])) st) := Eq.trans rfl rfl
@[simp] theorem mkLst5 (a b c d e : PV) : mkLst false [.pv a, .pv b, .pv c, .pv d, .pv e] st = some (.ok (.pv (.lst [a, b, c, d, e])) st) := Eq.trans rfl rfl
@[simp] theorem mkLst6 (a b c d e f : PV) : mkLst false [.pv a, .pv b, .pv c, .pv d, .pv e, .pv f] st = some (.ok (.pv (.lst [a, b, c, d, e, f])) st) := Eq.trans rfl rfl
@[simp] theorem endR_nx : endR (some (.nx φ st)) = some (.ok (.pv .non) st) := Eq.trans rfl rfl
@[simp] theorem endR_rt : endR (some (.rt v st)) = some (.ok v st) := Eq.trans rfl rfl
@[simp] theorem endR_ex : endR (some (.ex e φ st)) = some (.ex e st) := Eq.trans rfl rfl
@[simp] theorem endR_ite (c : Prop) [Decidable c] (a b) : endR (if c then a else b) = if c then endR a else endR b := by split <;> rfl
@[simp] theorem asgG_nm (i : Nat) : asgG (.nm i) v φ = some (φ.set i (some v)) := by simp only [asgG]
@[simp] theorem asgG_tpv (gs : List MG) (xs : List PV) : asgG (.tp gs) (.pv (.tup xs)) φ = asgGs gs (xs.map .pv) φ := by simp only [asgG]
@[simp] theorem asgG_tup (gs : List MG) (xs : List LV) : asgG (.tp gs) (.tup xs) φ = asgGs gs xs φ := by simp only [asgG]
@[simp] theorem asgG_lpv (gs : List MG) (xs : List PV) : asgG (.tp gs) (.pv (.lst xs)) φ = asgGs gs (xs.map .pv) φ := by simp only [asgG]
@[simp] theorem asgGs_nil : asgGs [] [] φ = some φ := by simp only [asgGs]
@[simp] theorem asgGs_cons (g : MG) (gs : List MG) (x : LV) (xs : List LV) : asgGs (g :: gs) (x :: xs) φ = (asgG g x φ).bind fun φ => asgGs gs xs φ := by
  rw [asgGs]
  cases asgG g x φ <;> rfl
end
/-- a turn of a loop, of a comprehension -/
def forStep (S : Sem) (g : MG) (a : List MS) : PV → Slots → Store → Option FR := fun x φ st => match asgG g (.pv x) φ with
  | some φ => exSs S a φ st
  | none => none
def lcStep (S : Sem) (elt : ME) (tg : MG) (ifs : List MT) (own : List Nat) (φ : Slots) : PV → Store → Option ERs := fun x st => match asgG tg (.pv x) (wipeL φ own) with
  | some φ1 => evIf S ifs φ1 st fun st => R.bsK (a := evE S elt φ1 st) fun y st => some (.ok [y] st)
  | none => none
/-- a loop, a comprehension over what is given -/
def forV (ik : IK) (vs : List LV) (step : PV → Slots → Store → Option FR) (φ : Slots) (st : Store) : Option FR := match unpv vs with
  | some ps => match items ik ps with
    | some xs => forLoop step xs φ st
    | none => none
  | none => none
def lcV (live : Bool) (ik : IK) (vs : List LV) (step : PV → Store → Option ERs) (st : Store) : Option ER := match unpv vs with
  | some ps => match items ik ps with
    | some xs => match lcLoop step xs st with
      | some (vs, st) => mkLst live vs st
      | none => none
    | none => none
  | none => none
theorem forV_of {ik : IK} {ps xs : List PV} (h : items ik ps = some xs) (step) (φ : Slots) (st : Store) : forV ik (ps.map .pv) step φ st = forLoop step xs φ st := by
  unfold forV
  rw [unpv_map]
  simp only [h]
theorem lcV_of {live : Bool} {ik : IK} {ps xs : List PV} {step} {st st1 : Store} {vs : List LV} (h : items ik ps = some xs) (hl : lcLoop step xs st = some (vs, st1)) : lcV live ik (ps.map .pv) step st = mkLst live vs st1 := by
  unfold lcV
  rw [unpv_map]
  simp only [h, hl]
theorem lcLoop_pure {step : PV → Store → Option ERs} {f : PV → List LV} {st : Store} : ∀ {xs : List PV}, (∀ x ∈ xs, step x st = some (.ok (f x) st)) → lcLoop step xs st = some (xs.flatMap f, st)
  | [], _ => rfl
  | x :: xs, h => by
    unfold lcLoop
    rw [h x (by simp)]
    simp only [noX]
    rw [lcLoop_pure fun y hy => h y (by simp [hy])]
    simp
section
variable (S : Sem) (φ : Slots) (st : Store)
@[simp] theorem evE_var (i : Nat) : evE S (.var i) φ st = match φ[i]? with
    | some (some (.exn _)) => none
    | some (some v) => some (.ok v st)
    | _ => none := Eq.trans rfl rfl
@[simp] theorem evE_lit (p : PV) : evE S (.lit p) φ st = some (.ok (.pv p) st) := Eq.trans rfl rfl
@[simp] theorem evE_glb (g : Nat) : evE S (.glb g) φ st = okP st (S.glb g) := Eq.trans rfl rfl
@[simp] theorem evE_tup (es) : evE S (.tup es) φ st = Rs.bK (a := evEs S es φ st) fun vs st => if vs.length ≤ line then some (.ok (mkTup vs) st) else none := Eq.trans rfl rfl
@[simp] theorem evE_lst (live) (es) : evE S (.lst live es) φ st = Rs.bK (a := evEs S es φ st) fun vs st => mkLst live vs st := Eq.trans rfl rfl
@[simp] theorem evE_dnew (t) : evE S (.dnew t) φ st = some (.ok (.ref st.length) (st ++ [if t then .dt true [] else .dk true []])) := Eq.trans rfl rfl
@[simp] theorem evE_bin (op a b) : evE S (.bin op a b) φ st = R.bK (a := evE S a φ st) fun x st => R.bK (a := evE S b φ st) fun y st => Z.bin op x y st := Eq.trans rfl rfl
@[simp] theorem evE_cmp (op a b) : evE S (.cmp op a b) φ st = R.bK (a := evE S a φ st) fun x st => R.bK (a := evE S b φ st) fun y st => Z.cmp op x y st := Eq.trans rfl rfl
@[simp] theorem evE_boolop (c es) : evE S (.boolop c es) φ st = evB S c es φ st := Eq.trans rfl rfl
@[simp] theorem evE_not (a) : evE S (.not a) φ st = R.bK (a := evE S a φ st) fun x st => match truL x st with
    | some b => some (.ok (.pv (.bl (!b))) st)
    | none => none := Eq.trans rfl rfl
@[simp] theorem evE_neg (a) : evE S (.neg a) φ st = R.bK (a := evE S a φ st) fun x st => match x with
    | .pv (.int i) => some (.ok (.pv (.int (-i))) st)
    | _ => none := Eq.trans rfl rfl
@[simp] theorem evE_ite (c a b) : evE S (.ite c a b) φ st = T.bK (a := evT S c φ st) fun d st => if d then evE S a φ st else evE S b φ st := Eq.trans rfl rfl
@[simp] theorem evE_idx (a i) : evE S (.idx a i) φ st = R.bK (a := evE S a φ st) fun x st => R.bK (a := evE S i φ st) fun y st => getI x y st := Eq.trans rfl rfl
@[simp] theorem evE_slc (a l lo h hi) : evE S (.slc a l lo h hi) φ st = R.bK (a := evE S a φ st) fun x st => R.bK (a := if l then evE S lo φ st else some (.ok (.pv .non) st)) fun lv st => match optL l lv with
      | some lo => R.bK (a := if h then evE S hi φ st else some (.ok (.pv .non) st)) fun hv st => match optL h hv, peek st x with
        | some hi, some x => okP st (doSlc x lo hi)
        | _, _ => none
      | none => none := Eq.trans rfl rfl
@[simp] theorem evE_tabI (t i) : evE S (.tabI t i) φ st = R.bK (a := evE S i φ st) fun y st => match S.tab t, y with
    | some ps, .pv (.int i) => okP st ((atI ps i).map .str)
    | _, _ => none := Eq.trans rfl rfl
@[simp] theorem evE_tabL (t) : evE S (.tabL t) φ st = (S.tab t).map fun ps => .ok (.pv (.int (ps.length : Nat))) st := Eq.trans rfl rfl
@[simp] theorem evE_tabX (t es) : evE S (.tabX t es) φ st = Rs.bK (a := evEs S es φ st) fun vs st => match S.tab t, vs with
    | some ps, [.pv (.str z)] => (ps.findIdx? fun x => decide (x = z)).map fun j => .ok (.pv (.int (j : Nat))) st
    | _, _ => none := Eq.trans rfl rfl
@[simp] theorem evE_rev (a) : evE S (.rev a) φ st = R.bK (a := evE S a φ st) fun x st => match x with
    | .pv (.str s) => if s.length ≤ 2 then some (.ok (.pv (.str s.reverse)) st) else none
    | .pv (.tup xs) => if xs.length ≤ line then some (.ok (.pv (.tup xs.reverse)) st) else none
    | .pv (.lst xs) => some (.ok (.pv (.lst xs.reverse)) st)
    | _ => none := Eq.trans rfl rfl
@[simp] theorem evE_isn (neg a) : evE S (.isn neg a) φ st = R.bK (a := evE S a φ st) fun x st => match x with
    | .pv .non => some (.ok (.pv (.bl (!neg))) st)
    | _ => some (.ok (.pv (.bl neg)) st) := Eq.trans rfl rfl
@[simp] theorem evE_isi (t a) : evE S (.isi t a) φ st = R.bK (a := evE S a φ st) fun x st => match peek st x with
    | some x => (isTy t x).map fun b => .ok (.pv (.bl b)) st
    | none => none := Eq.trans rfl rfl
@[simp] theorem evE_bi (b es) : evE S (.bi b es) φ st = Rs.bK (a := evEs S es φ st) fun vs st => match lenB b vs st with
    | some n => some (.ok (.pv (.int (n : Int))) st)
    | none => match peeks st vs with
      | some ps => okP st (doBI b ps)
      | none => none := Eq.trans rfl rfl
@[simp] theorem lenB_len (v : LV) : lenB .len [v] st = lenL v st := Eq.trans rfl rfl
@[simp] theorem lenL_pv (p : PV) : lenL (.pv p) st = none := Eq.trans rfl rfl
@[simp] theorem lenB_abs (vs) : lenB .abs vs st = none := Eq.trans rfl rfl
@[simp] theorem lenB_int (vs) : lenB .int vs st = none := Eq.trans rfl rfl
@[simp] theorem lenB_list (vs) : lenB .list vs st = none := Eq.trans rfl rfl
@[simp] theorem lenB_sum (vs) : lenB .sum vs st = none := Eq.trans rfl rfl
@[simp] theorem lenB_all (vs) : lenB .all vs st = none := Eq.trans rfl rfl
@[simp] theorem lenB_any (vs) : lenB .any vs st = none := Eq.trans rfl rfl
@[simp] theorem lenB_repr (vs) : lenB .repr vs st = none := Eq.trans rfl rfl
@[simp] theorem lenB_str (vs) : lenB .str vs st = none := Eq.trans rfl rfl
@[simp] theorem lenB_max (vs) : lenB .max vs st = none := Eq.trans rfl rfl
@[simp] theorem lenB_min (vs) : lenB .min vs st = none := Eq.trans rfl rfl
@[simp] theorem lenB_sorted (vs) : lenB .sorted vs st = none := Eq.trans rfl rfl
@[simp] theorem lenB_tuple (vs) : lenB .tuple vs st = none := Eq.trans rfl rfl
@[simp] theorem evE_bm (m r es) : evE S (.bm m r es) φ st = R.bK (a := evE S r φ st) fun x st => if bmOk m x st then Rs.bK (a := evEs S es φ st) fun vs st => doBM m x vs st else none := Eq.trans rfl rfl
@[simp] theorem evE_call (f es) : evE S (.call f es) φ st = Rs.bK (a := evEs S es φ st) fun vs st => S.call f vs st := Eq.trans rfl rfl
@[simp] theorem evE_lc (live elt tg ik src ifs own) : evE S (.lc live elt tg ik src ifs own) φ st = Rs.bK (a := evEs S src φ st) fun vs st => lcV live ik vs (lcStep S elt tg ifs own φ) st := Eq.trans rfl rfl
@[simp] theorem evE_frz (a) : evE S (.frz a) φ st = R.bK (a := evE S a φ st) fun x st => (frz x st).map fun p => .ok (.pv p.1) p.2 := Eq.trans rfl rfl
@[simp] theorem evE_fld (C a f) : evE S (.fld C a f) φ st = R.bK (a := evE S a φ st) fun x st => if isIns C S.nf x st then getF x f st else none := Eq.trans rfl rfl
@[simp] theorem evE_mcall (C f a es) : evE S (.mcall C f a es) φ st = R.bK (a := evE S a φ st) fun x st => if isIns C S.nf x st then Rs.bK (a := evEs S es φ st) fun vs st => S.call f (x :: vs) st else none := Eq.trans rfl rfl
@[simp] theorem evE_new (C f es) : evE S (.new C f es) φ st = Rs.bK (a := evEs S es φ st) fun vs st => S.make C f vs st := Eq.trans rfl rfl
@[simp] theorem evE_xfld (i f) : evE S (.xfld i f) φ st = match φ[i]? with
    | some (some (.exn e)) => match S.xin e.cls with
      | some nf => if nf.2.any fun q => q.1 == f then okP st (look f e.fs) else none
      | none => none
    | _ => none := Eq.trans rfl rfl
@[simp] theorem evE_xisi (i C) : evE S (.xisi i C) φ st = match φ[i]? with
    | some (some (.exn e)) => match S.xin e.cls with
      | some _ => some (.ok (.pv (.bl (S.sub e.cls C))) st)
      | none => none
    | _ => none := Eq.trans rfl rfl
@[simp] theorem evE_dsel (kvs i) : evE S (.dsel kvs i) φ st = R.bK (a := evE S i φ st) fun y st => match y with
    | .pv k => match keyK k with
      | some k => okP st (look k kvs)
      | none => none
    | _ => none := Eq.trans rfl rfl
@[simp] theorem evE_tabD (t i) : evE S (.tabD t i) φ st = R.bK (a := evE S i φ st) fun y st => match S.dtab t, y with
    | some kvs, .pv (.str z) => okP st (look z kvs)
    | _, _ => none := Eq.trans rfl rfl
@[simp] theorem evE_slcL (a l lo h hi) : evE S (.slcL a l lo h hi) φ st = R.bK (a := evE S a φ st) fun x st => R.bK (a := if l then evE S lo φ st else some (.ok (.pv .non) st)) fun lv st => match optL l lv with
      | some lo => R.bK (a := if h then evE S hi φ st else some (.ok (.pv .non) st)) fun hv st => match optL h hv, peek st x with
        | some hi, some (.lst ps) => some (.ok (.ref st.length) (st ++ [.lst true ((cut ps lo hi).map .pv)]))
        | _, _ => none
      | none => none := Eq.trans rfl rfl
@[simp] theorem evE_lcopy (a) : evE S (.lcopy a) φ st = R.bK (a := evE S a φ st) fun x st => match sq st x with
    | some xs => if xs.length ≤ line then some (.ok (.ref st.length) (st ++ [.lst true xs])) else none
    | none => none := Eq.trans rfl rfl
@[simp] theorem evE_dpairs (a) : evE S (.dpairs a) φ st = R.bK (a := evE S a φ st) fun x st => match peek st x with
    | some (.lst ps) => (match pairsK ps with
      | some m => some (.ok (.ref st.length) (st ++ [.dk true (mergeD [] m)]))
      | none => none)
    | _ => none := Eq.trans rfl rfl
@[simp] theorem evE_dcopy (a) : evE S (.dcopy a) φ st = R.bK (a := evE S a φ st) fun x st => match peek st x with
    | some (.dk kvs) => some (.ok (.ref st.length) (st ++ [.dk true (kvs.map fun kv => (kv.1, .pv kv.2))]))
    | _ => none := Eq.trans rfl rfl
@[simp] theorem evE_cat (a b) : evE S (.cat a b) φ st = R.bK (a := evE S a φ st) fun x st => R.bK (a := evE S b φ st) fun y st => match sq st x, sq st y with
    | some xs, some ys => if xs.length + ys.length ≤ line then some (.ok (.ref st.length) (st ++ [.lst true (xs ++ ys)])) else none
    | _, _ => none := Eq.trans rfl rfl
def lcWV (live : Bool) (v : LV) (step : LV → Store → Option ERs) (st : Store) : Option ER := match v with
  | .ref n => match lcWalk step n (walkF n st) 0 st with
      | some (vs, st) => mkLst live vs st
      | none => none
  | _ => none
def lcWStep (S : Sem) (elt : ME) (tg : MG) (ifs : List MT) (own : List Nat) (φ : Slots) : LV → Store → Option ERs := fun x st => match asgG tg x (wipeL φ own) with
  | some φ1 => evIf S ifs φ1 st fun st => R.bsK (a := evE S elt φ1 st) fun y st => some (.ok [y] st)
  | none => none
def forWStep (S : Sem) (g : MG) (a : List MS) : LV → Slots → Store → Option FR := fun x φ st => match asgG g x φ with
  | some φ => exSs S a φ st
  | none => none
def forWV (v : LV) (step : LV → Slots → Store → Option FR) (φ : Slots) (st : Store) : Option FR := match v with
  | .ref n => forWalk step n (walkF n st) 0 φ st
  | _ => none
@[simp] theorem evE_lcW (live elt tg src ifs own) : evE S (.lcW live elt tg src ifs own) φ st = R.bK (a := evE S src φ st) fun v st => lcWV live v (lcWStep S elt tg ifs own φ) st := Eq.trans rfl rfl
@[simp] theorem exS_forW (g src a) : exS S (.forW g src a) φ st = R.bfK φ (a := evE S src φ st) fun v st => forWV v (forWStep S g a) φ st := Eq.trans rfl rfl
@[simp] theorem evEs_nil : evEs S [] φ st = some (.ok [] st) := Eq.trans rfl rfl
@[simp] theorem evEs_cons (e es) : evEs S (e :: es) φ st = R.bsK (a := evE S e φ st) fun v st => Rs.bsK (a := evEs S es φ st) fun vs st => some (.ok (v :: vs) st) := Eq.trans rfl rfl
@[simp] theorem evT_boolop (c es) : evT S (.boolop c es) φ st = evBT S c es φ st := Eq.trans rfl rfl
@[simp] theorem evT_not (t) : evT S (.not t) φ st = T.btK (a := evT S t φ st) fun b st => some (.ok (!b) st) := Eq.trans rfl rfl
@[simp] theorem evT_val (e) : evT S (.val e) φ st = R.btK (a := evE S e φ st) fun v st => (truL v st).map fun b => .ok b st := Eq.trans rfl rfl
@[simp] theorem evT_cmp (op a b) : evT S (.cmp op a b) φ st = R.btK (a := evE S a φ st) fun x st => R.btK (a := evE S b φ st) fun y st => cmpT op x y st := Eq.trans rfl rfl
@[simp] theorem evT_chain (o1 o2 a b c) : evT S (.chain o1 o2 a b c) φ st = R.btK (a := evE S a φ st) fun x st => R.btK (a := evE S b φ st) fun y st => T.btK (a := cmpT o1 x y st) fun k st => if k then R.btK (a := evE S c φ st) fun z st => cmpT o2 y z st else some (.ok false st) := Eq.trans rfl rfl
@[simp] theorem evT_isn (neg a) : evT S (.isn neg a) φ st = R.btK (a := evE S a φ st) fun x st => match x with
    | .pv .non => some (.ok (!neg) st)
    | _ => some (.ok neg st) := Eq.trans rfl rfl
@[simp] theorem evB_one (c e) : evB S c [e] φ st = evE S e φ st := Eq.trans rfl rfl
@[simp] theorem evB_cons (c e e' es) : evB S c (e :: e' :: es) φ st = R.bK (a := evE S e φ st) fun v st => match truL v st with
    | some b => if b == c then evB S c (e' :: es) φ st else some (.ok v st)
    | none => none := Eq.trans rfl rfl
@[simp] theorem evBT_one (c e) : evBT S c [e] φ st = evT S e φ st := Eq.trans rfl rfl
@[simp] theorem evBT_cons (c e e' es) : evBT S c (e :: e' :: es) φ st = T.btK (a := evT S e φ st) fun b st => if b == c then evBT S c (e' :: es) φ st else some (.ok b st) := Eq.trans rfl rfl
@[simp] theorem evIf_nil (k) : evIf S [] φ st k = k st := Eq.trans rfl rfl
@[simp] theorem evIf_cons (c cs k) : evIf S (c :: cs) φ st k = match evT S c φ st with
    | some (.ok true st) => k st
    | some (.ok false st) => some (.ok [] st)
    | some (.ex e st) => some (.ex e st)
    | none => none := Eq.trans rfl rfl
@[simp] theorem exS_ex (e) : exS S (.ex e) φ st = R.bfK φ (a := evE S e φ st) fun _ st => some (.nx φ st) := Eq.trans rfl rfl
@[simp] theorem exS_asg (g e) : exS S (.asg g e) φ st = R.bfK φ (a := evE S e φ st) fun v st => (asgG g v φ).map fun φ => .nx φ st := Eq.trans rfl rfl
@[simp] theorem exS_asgI (a i e) : exS S (.asgI a i e) φ st = R.bfK φ (a := evE S e φ st) fun v st => R.bfK φ (a := evE S a φ st) fun x st => R.bfK φ (a := evE S i φ st) fun y st => (setI x y v st).map fun st => .nx φ st := Eq.trans rfl rfl
@[simp] theorem exS_aug (i op e) : exS S (.aug i op e) φ st = match φ[i]? with
    | some (some x) => R.bfK φ (a := evE S e φ st) fun y st => R.bfK φ (a := augOp op x y st) fun z st => some (.nx (φ.set i (some z)) st)
    | _ => none := Eq.trans rfl rfl
@[simp] theorem exS_augI (a i op e) : exS S (.augI a i op e) φ st = R.bfK φ (a := evE S a φ st) fun x st => R.bfK φ (a := evE S i φ st) fun y st => R.bfK φ (a := getI x y st) fun v st => R.bfK φ (a := evE S e φ st) fun w st =>
      R.bfK φ (a := augOp op v w st) fun z st => (setI x y z st).map fun st => .nx φ st := Eq.trans rfl rfl
@[simp] theorem exS_iff (c a b) : exS S (.iff c a b) φ st = T.bfK φ (a := evT S c φ st) fun d st => if d then exSs S a φ st else exSs S b φ st := Eq.trans rfl rfl
@[simp] theorem exS_whl (c a) : exS S (.whl c a) φ st = whLoop (evT S c) (exSs S a) S.wf φ st := Eq.trans rfl rfl
@[simp] theorem exS_for (g ik src a) : exS S (.for_ g ik src a) φ st = Rs.bfK φ (a := evEs S src φ st) fun vs st => forV ik vs (forStep S g a) φ st := Eq.trans rfl rfl
@[simp] theorem exS_ret (e) : exS S (.ret e) φ st = R.bfK φ (a := evE S e φ st) fun v st => some (.rt v st) := Eq.trans rfl rfl
@[simp] theorem exS_retN : exS S .retN φ st = some (.rt (.pv .non) st) := Eq.trans rfl rfl
@[simp] theorem exS_fset (C a f e) : exS S (.fset C a f e) φ st = R.bfK φ (a := evE S e φ st) fun v st => R.bfK φ (a := evE S a φ st) fun x st => if isIns C S.nf x st then (setFl x f v st).map fun st => .nx φ st else none := Eq.trans rfl rfl
@[simp] theorem exS_faug (C a f op e) : exS S (.faug C a f op e) φ st = R.bfK φ (a := evE S a φ st) fun x st => if isIns C S.nf x st then R.bfK φ (a := getF x f st) fun v st => R.bfK φ (a := evE S e φ st) fun w st =>
      R.bfK φ (a := augOp op v w st) fun z st => if isIns C S.nf x st then (setFl x f z st).map fun st => .nx φ st else none
    else none := Eq.trans rfl rfl
@[simp] theorem exS_raise (C es) : exS S (.raise C es) φ st = Rs.bfK φ (a := evEs S es φ st) fun vs st => match S.xin C, unpv vs with
    | some (n, fl), some ps => if ps.length = n then (extP ps [] fl).map fun fs => .ex ⟨C, fs⟩ φ st else none
    | _, _ => none := Eq.trans rfl rfl
@[simp] theorem exS_try (body C slot suite) : exS S (.tryE body C slot suite) φ st = match exSs S body φ st with
    | some (.ex e φ1 st1) => if (S.xin e.cls).isNone then none else if S.sub e.cls C then unslot slot (exSs S suite (match slot with
        | some i => φ1.set i (some (.exn e))
        | none => φ1) st1) else some (.ex e φ1 st1)
    | r => r := Eq.trans rfl rfl
@[simp] theorem exS_brk : exS S .brk φ st = some (.bk φ st) := Eq.trans rfl rfl
@[simp] theorem exS_cnt : exS S .cnt φ st = some (.ct φ st) := Eq.trans rfl rfl
@[simp] theorem exS_pass : exS S .pass φ st = some (.nx φ st) := Eq.trans rfl rfl
end
section
variable {S : Sem} {f : Nat} {st st1 : Store}
theorem call_pv {ps : List PV} {p : PV} (hs : S.shr f = false) (h : S.cal f (ps.map .pv) [] = some (.ok (.pv p) st1)) : S.call f (ps.map .pv) st = some (.ok (.pv p) st) := by
  unfold Sem.call
  rw [hs, unpv_map]
  simp only [h, frz, Option.map_some]
theorem call_ex {ps : List PV} {e : Ex} (hs : S.shr f = false) (h : S.cal f (ps.map .pv) [] = some (.ex e st1)) : S.call f (ps.map .pv) st = some (.ex e st) := by
  unfold Sem.call
  rw [hs, unpv_map]
  simp only [h]
end
section
variable {P : Prog} {n f : Nat} {st st1 : Store}
/-- one argument, two, three: trees -/
theorem call1 {a p : PV} (hs : P.shr f = false) (h : P.cal n f [.pv a] [] = some (.ok (.pv p) st1)) : (P.sem n).call f [.pv a] st = some (.ok (.pv p) st) := call_pv (S := P.sem n) (ps := [a]) hs h
theorem call2 {a b p : PV} (hs : P.shr f = false) (h : P.cal n f [.pv a, .pv b] [] = some (.ok (.pv p) st1)) : (P.sem n).call f [.pv a, .pv b] st = some (.ok (.pv p) st) := call_pv (S := P.sem n) (ps := [a, b]) hs h
theorem call3 {a b c p : PV} (hs : P.shr f = false) (h : P.cal n f [.pv a, .pv b, .pv c] [] = some (.ok (.pv p) st1)) : (P.sem n).call f [.pv a, .pv b, .pv c] st = some (.ok (.pv p) st) := call_pv (S := P.sem n) (ps := [a, b, c]) hs h
theorem callx1 {a : PV} {e : Ex} (hs : P.shr f = false) (h : P.cal n f [.pv a] [] = some (.ex e st1)) : (P.sem n).call f [.pv a] st = some (.ex e st) := call_ex (S := P.sem n) (ps := [a]) hs h
theorem callx2 {a b : PV} {e : Ex} (hs : P.shr f = false) (h : P.cal n f [.pv a, .pv b] [] = some (.ex e st1)) : (P.sem n).call f [.pv a, .pv b] st = some (.ex e st) := call_ex (S := P.sem n) (ps := [a, b]) hs h
theorem callx3 {a b c : PV} {e : Ex} (hs : P.shr f = false) (h : P.cal n f [.pv a, .pv b, .pv c] [] = some (.ex e st1)) : (P.sem n).call f [.pv a, .pv b, .pv c] st = some (.ex e st) := call_ex (S := P.sem n) (ps := [a, b, c]) hs h
end
theorem cal_eq (P : Prog) (n f : Nat) (d : MD) (vs : List LV) (st : Store) (h : P.defs[f]? = some d) (hl : vs.length = d.ar) : P.cal (n + 1) f vs st = endR (exSs (P.sem n) d.body (vs.map some ++ List.replicate (d.nn - d.ar) none) st) := by
  rw [cal_succ h]
  unfold MD.run
  rw [if_pos hl]
end Z
end

section
/-! ZW: plain facts about trees, loops, comprehensions. -/
namespace Z
mutual
theorem eqP_refl : ∀ p : PV, eqOk p = true → eqP p p = true
  | .non, _ => rfl
  | .bl b, _ => by simp [eqP]
  | .int i, _ => by simp [eqP]
  | .str s, _ => by simp [eqP]
  | .tup xs, h => by simp only [eqP]; exact eqPs_refl xs (by simpa [eqOk] using h)
  | .lst xs, h => by simp only [eqP]; exact eqPs_refl xs (by simpa [eqOk] using h)
  | .dk _, h => by simp [eqOk] at h
  | .dt _, h => by simp [eqOk] at h
  | .scr _, h => by simp [eqOk] at h
theorem eqPs_refl : ∀ ps : List PV, eqOks ps = true → eqPs ps ps = true
  | [], _ => rfl
  | x :: xs, h => by
    simp only [eqOks, Bool.and_eq_true] at h
    simp only [eqPs, eqP_refl x h.1, eqPs_refl xs h.2, Bool.and_self]
end
theorem opEq_self {p : PV} (h : eqOk p = true) (hd : dep p ≤ maxDep) : opEq p p = some true := by
  unfold opEq
  rw [h, eqP_refl p h, Nat.min_self, decide_eq_true hd]; rfl
theorem ne_self {p : PV} (h : eqOk p = true) (hd : dep p ≤ maxDep) : doCmp .ne p p = some false := by
  simp only [doCmp, opEq_self h hd, Option.map_some, Bool.not_true]
theorem eq_self {p : PV} (h : eqOk p = true) (hd : dep p ≤ maxDep) : doCmp .eq p p = some true := by
  simp only [doCmp, opEq_self h hd]
theorem opEq_str (a b : Sg) : opEq (.str a) (.str b) = some (decide (a = b)) := by
  simp only [opEq, eqOk, dep, eqP, Bool.and_self, Nat.min_self, Nat.zero_le, decide_true, Bool.and_true, if_true]
  congr 1
  exact Bool.eq_iff_iff.mpr (by simp)
theorem opEq_int (a b : Int) : opEq (.int a) (.int b) = some (decide (a = b)) := by
  simp only [opEq, eqOk, dep, eqP, Bool.and_self, Nat.min_self, Nat.zero_le, decide_true, Bool.and_true, if_true]
  congr 1
@[simp] theorem eq_str (a b : Sg) : doCmp .eq (.str a) (.str b) = some (decide (a = b)) := opEq_str a b
@[simp] theorem ne_str (a b : Sg) : doCmp .ne (.str a) (.str b) = some (!decide (a = b)) := by simp only [doCmp, opEq_str, Option.map_some]
@[simp] theorem eq_int (a b : Int) : doCmp .eq (.int a) (.int b) = some (decide (a = b)) := opEq_int a b
@[simp] theorem ne_int (a b : Int) : doCmp .ne (.int a) (.int b) = some (!decide (a = b)) := by simp only [doCmp, opEq_int, Option.map_some]
@[simp] theorem lt_int (a b : Int) : doCmp .lt (.int a) (.int b) = some (decide (a < b)) := rfl
@[simp] theorem le_int (a b : Int) : doCmp .le (.int a) (.int b) = some (decide (a ≤ b)) := rfl
@[simp] theorem gt_int (a b : Int) : doCmp .gt (.int a) (.int b) = some (decide (b < a)) := rfl
@[simp] theorem ge_int (a b : Int) : doCmp .ge (.int a) (.int b) = some (decide (b ≤ a)) := rfl
@[simp] theorem eq_bl (a b : Bool) : doCmp .eq (.bl a) (.bl b) = some (a == b) := rfl
@[simp] theorem ne_bl (a b : Bool) : doCmp .ne (.bl a) (.bl b) = some (!(a == b)) := rfl
@[simp] theorem add_int (a b : Int) : doBin .add (.int a) (.int b) = some (.int (a + b)) := rfl
@[simp] theorem sub_int (a b : Int) : doBin .sub (.int a) (.int b) = some (.int (a - b)) := rfl
@[simp] theorem tru_bl (b : Bool) : tru (.bl b) = some b := rfl
@[simp] theorem tru_non : tru .non = some false := rfl
@[simp] theorem len_lst (xs : List PV) : doBI .len [.lst xs] = some (.int xs.length) := rfl
@[simp] theorem len_tup (xs : List PV) : doBI .len [.tup xs] = some (.int xs.length) := rfl
theorem len_str {s : Sg} (h : s.length ≤ line) : doBI .len [.str s] = some (.int s.length) := by simp only [doBI, if_pos h]
theorem cat_str {a b : Sg} (h : a.length + b.length ≤ line) : doBin .add (.str a) (.str b) = some (.str (a ++ b)) := by simp only [doBin, if_pos h]
theorem cat_lst {a b : List PV} (h : a.length + b.length ≤ line) : doBin .add (.lst a) (.lst b) = some (.lst (a ++ b)) := by simp only [doBin, if_pos h]
/-! ### subscripts, slices -/
theorem atI_nat {α : Type} {xs : List α} {k : Nat} (h : k < xs.length) : atI xs (k : Int) = xs[k]? := by
  have h0 : (0 : Int) ≤ k := Int.natCast_nonneg k
  have h1 : (k : Int) < xs.length := Int.ofNat_lt.mpr h
  simp only [atI, ixN, if_pos h0, if_pos h1, Int.toNat_natCast]
@[simp] theorem atI_zero {α : Type} (x : α) (xs : List α) : atI (x :: xs) 0 = some x := by
  have := atI_nat (xs := x :: xs) (k := 0) (by simp)
  simpa using this
@[simp] theorem atI_one {α : Type} (x y : α) (xs : List α) : atI (x :: y :: xs) 1 = some y := by
  have := atI_nat (xs := x :: y :: xs) (k := 1) (by simp)
  simpa using this
@[simp] theorem atI_two {α : Type} (x y z : α) (xs : List α) : atI (x :: y :: z :: xs) 2 = some z := by
  have := atI_nat (xs := x :: y :: z :: xs) (k := 2) (by simp)
  simpa using this
theorem atI_last {α : Type} (xs : List α) (x : α) : atI (xs ++ [x]) (-1) = some x := by
  unfold atI ixN
  have h0 : ¬ (0 : Int) ≤ -1 := by decide
  have h1 : -(((xs ++ [x]).length : Nat) : Int) ≤ -1 := by simp; omega
  rw [if_neg h0, if_pos h1]
  have h2 : (-1 + (((xs ++ [x]).length : Nat) : Int)).toNat = xs.length := by simp; omega
  simp only [h2]
  simp
@[simp] theorem idx_lst (xs : List PV) (i : Int) : doIdx (.lst xs) (.int i) = atI xs i := rfl
@[simp] theorem idx_tup (xs : List PV) (i : Int) : doIdx (.tup xs) (.int i) = atI xs i := rfl
theorem idx_str {s : Sg} {k : Nat} (hl : s.length ≤ line) (h : k < s.length) : doIdx (.str s) (.int (k : Int)) = (s[k]?).map fun c => .str [c] := by
  simp only [doIdx, if_pos hl, atI_nat h]
theorem cut_to {α : Type} (xs : List α) {k : Nat} (h : k ≤ xs.length) : cut xs none (some (k : Int)) = xs.take k := by
  unfold cut sIx
  have h0 : ¬ ((k : Int) < 0) := by omega
  simp [if_neg h0, Nat.min_eq_left h]
theorem cut_from {α : Type} (xs : List α) {k : Nat} (h : k ≤ xs.length) : cut xs (some (k : Int)) none = xs.drop k := by
  unfold cut sIx
  have h0 : ¬ ((k : Int) < 0) := by omega
  simp only [if_neg h0, Int.toNat_natCast, Nat.min_eq_left h]
  rw [List.take_of_length_le]
  simp
theorem cut_from_big {α : Type} (xs : List α) {k : Nat} (h : xs.length ≤ k) : cut xs (some (k : Int)) none = [] := by
  unfold cut sIx
  have h0 : ¬ ((k : Int) < 0) := by omega
  simp [if_neg h0, Nat.min_eq_right h]
/-! ### loops -/
theorem upto_length (lo : Int) (n : Nat) : (upto lo n).length = n := by
  induction n generalizing lo with
  | zero => rfl
  | succ n ih => simp [upto, ih]
@[simp] theorem forLoop_nil (step) (φ : Slots) (st : Store) : forLoop step [] φ st = some (.nx φ st) := rfl
theorem forLoop_cons (step) (x : PV) (xs : List PV) (φ : Slots) (st : Store) : forLoop step (x :: xs) φ st = match step x φ st with
    | some (.nx φ st) => forLoop step xs φ st
    | some (.ct φ st) => forLoop step xs φ st
    | some (.bk φ st) => some (.nx φ st)
    | r => r := rfl
/-- a loop that goes through -/
theorem forLoop_inv {step : PV → Slots → Store → Option FR} (I : Nat → Slots → Store → Prop) : ∀ (xs : List PV) (k : Nat) (φ : Slots) (st : Store), I k φ st →
    (∀ i x φ st, xs[i]? = some x → I (k + i) φ st → ∃ φ' st', step x φ st = some (.nx φ' st') ∧ I (k + i + 1) φ' st') → ∃ φ' st', forLoop step xs φ st = some (.nx φ' st') ∧ I (k + xs.length) φ' st'
  | [], k, φ, st, h0, _ => ⟨φ, st, rfl, h0⟩
  | x :: xs, k, φ, st, h0, h => by
    obtain ⟨φ1, st1, e1, i1⟩ := h 0 x φ st rfl h0
    obtain ⟨φ2, st2, e2, i2⟩ := forLoop_inv I xs (k + 1) φ1 st1 i1 fun i y φ st hy hi => by
      have := h (i + 1) y φ st (by simpa using hy) (by rw [show k + (i + 1) = k + 1 + i by omega]; exact hi)
      rwa [show k + (i + 1) + 1 = k + 1 + i + 1 by omega] at this
    refine ⟨φ2, st2, ?_, by rw [List.length_cons, show k + (xs.length + 1) = k + 1 + xs.length by omega]; exact i2⟩
    rw [forLoop_cons, e1]
    exact e2
/-! ### the draw -/
section
variable {P : Prog} {n f : Nat}
theorem draw_call (hd : P.defs[f]? = some drawMD) (F : Fd) {m : Int} (h1 : 0 < m) (h2 : m < 1073741824) {st : Store} {r : Nat} (hr : st[r]? = some F.cell) :
    (P.sem (n + 1)).call f [.ref r, .pv (.int m)] st = some (.ok (.pv (.int (F.draw m).1)) (st.set r (F.draw m).2.cell)) := by
  obtain ⟨_, _, run⟩ := F.draw_spec h1 h2
  have e : (P.sem (n + 1)).cal f [.ref r, .pv (.int m)] st = some (.ok (.pv (.int (F.draw m).1)) (st.set r (F.draw m).2.cell)) := by
    show P.cal (n + 1) f _ _ = _
    rw [cal_succ hd]
    exact run _ _ _ hr
  unfold Sem.call
  have hn : unpv [LV.ref r, LV.pv (.int m)] = none := rfl
  rw [hn]
  have ht : ∀ b, trunc st.length b (st.set r (F.draw m).2.cell) = st.set r (F.draw m).2.cell := fun b => by
    unfold trunc
    split
    · rw [List.take_of_length_le (by rw [List.length_set]; exact Nat.le_refl _)]
    · rfl
  cases (P.sem (n + 1)).shr f <;> simp only [e, ht]
/-- where nothing but the feed stands -/
theorem draw0 (hd : P.defs[f]? = some drawMD) (F : Fd) {m : Int} (h1 : 0 < m) (h2 : m < 1073741824) :
    (P.sem (n + 1)).call f [.ref 0, .pv (.int m)] [F.cell] = some (.ok (.pv (.int (F.draw m).1)) [(F.draw m).2.cell]) := draw_call hd F h1 h2 (st := [F.cell]) (r := 0) rfl
theorem draw_nat (F : Fd) {m : Int} (h1 : 0 < m) (h2 : m < 1073741824) : ∃ k : Nat, (F.draw m).1 = (k : Int) ∧ (k : Int) < m := by
  obtain ⟨k1, k2, _⟩ := F.draw_spec h1 h2
  exact ⟨(F.draw m).1.toNat, by omega, by omega⟩
end
end Z
namespace Z
/-! ### cells -/
section
variable {st : Store} {r : Nat} {b : Bool} {L : List LV} {v : LV}
theorem getI_ref {i : Int} (h : st[r]? = some (.lst b L)) (hi : atI L i = some v) : getI (.ref r) (.pv (.int i)) st = some (.ok v st) := by
  simp only [getI, h, hi]
theorem lenL_ref (h : st[r]? = some (.lst b L)) : lenL (.ref r) st = some L.length := by simp only [lenL, h]
theorem bm_append (h : st[r]? = some (.lst b L)) : bmOk .append (.ref r) st = true := by simp only [bmOk, h]
theorem bm_pop (h : st[r]? = some (.lst b L)) : bmOk .pop0 (.ref r) st = true := by simp only [bmOk, h]
theorem do_append (h : st[r]? = some (.lst true L)) (hl : L.length < line) : doBM .append (.ref r) [v] st = some (.ok (.pv .non) (st.set r (.lst true (L ++ [v])))) := by
  simp only [doBM, h, if_pos hl]
theorem do_pop (h : st[r]? = some (.lst true (L ++ [v]))) : doBM .pop0 (.ref r) [] st = some (.ok v (st.set r (.lst true L))) := by
  simp only [doBM, h, List.getLast?_append, List.getLast?_singleton, Option.some_or, List.dropLast_concat]
theorem mkLst_live (vs : List LV) (hl : vs.length ≤ line) : mkLst true vs st = some (.ok (.ref st.length) (st ++ [.lst true vs])) := by
  unfold mkLst
  rw [if_pos hl]; rfl
@[simp] theorem mkLst_live0 : mkLst true [] st = some (.ok (.ref st.length) (st ++ [.lst true []])) := rfl
theorem peek_ref {ps : List PV} (h : st[r]? = some (.lst b (ps.map .pv))) : peek st (.ref r) = some (.lst ps) := by
  simp only [peek, h, unpv_map, Option.map_some]
theorem frz_ref {ps : List PV} (h : st[r]? = some (.lst b (ps.map .pv))) : frz (.ref r) st = some (.lst ps, st.set r (.lst false (ps.map .pv))) := by
  simp only [frz, h, unpv_map]
end
end Z
namespace Z
theorem range_ok {n : Nat} (h : n ≤ line) : rangeOk (n : Int) = true := by
  have h1 : line = 16777216 := rfl
  have a : -(2 ^ 62 : Int) ≤ (n : Int) := by omega
  have b : (n : Int) < 2 ^ 62 := by omega
  unfold rangeOk
  rw [decide_eq_true a, decide_eq_true b]
  rfl
theorem items_upto {n : Nat} (h : n ≤ line) : items .range [.int (n : Int)] = some ((upto 0 n).map .int) := by
  simp only [items, range_ok h, if_true, Int.toNat_natCast]
theorem items_upto2 {m n : Nat} (h : n ≤ line) (hm : m ≤ line) : items .range [.int (m : Int), .int (n : Int)] = some ((upto m (n - m)).map .int) := by
  have e : ((n : Int) - (m : Int)).toNat = n - m := by omega
  simp only [items, range_ok h, range_ok hm, Bool.and_self, if_true, e]
theorem items_str {s : Sg} (h : s.length ≤ line) : items .val [.str s] = some (s.map fun c => .str [c]) := by simp only [items, if_pos h]
@[simp] theorem items_lst (xs : List PV) : items .val [.lst xs] = some xs := rfl
@[simp] theorem items_tup (xs : List PV) : items .val [.tup xs] = some xs := rfl
end Z
namespace Z
theorem forV_upto {n : Nat} (h : n ≤ line) (step) (φ : Slots) (st : Store) : forV .range [.pv (.int (n : Int))] step φ st = forLoop step ((upto 0 n).map .int) φ st := forV_of (ps := [.int n]) (items_upto h) step φ st
@[simp] theorem forV_lst (xs : List PV) (step) (φ : Slots) (st : Store) : forV .val [.pv (.lst xs)] step φ st = forLoop step xs φ st := forV_of (ps := [.lst xs]) rfl step φ st
@[simp] theorem forV_tup (xs : List PV) (step) (φ : Slots) (st : Store) : forV .val [.pv (.tup xs)] step φ st = forLoop step xs φ st := forV_of (ps := [.tup xs]) rfl step φ st
theorem forV_str {s : Sg} (h : s.length ≤ line) (step) (φ : Slots) (st : Store) : forV .val [.pv (.str s)] step φ st = forLoop step (s.map fun c => .str [c]) φ st := forV_of (ps := [.str s]) (items_str h) step φ st
theorem lcV_upto {live : Bool} {n : Nat} (h : n ≤ line) {step} {st st1 : Store} {vs : List LV} (hl : lcLoop step ((upto 0 n).map .int) st = some (vs, st1)) : lcV live .range [.pv (.int (n : Int))] step st = mkLst live vs st1 := lcV_of (ps := [.int n]) (items_upto h) hl
theorem lcV_lst {live : Bool} {xs : List PV} {step} {st st1 : Store} {vs : List LV} (hl : lcLoop step xs st = some (vs, st1)) : lcV live .val [.pv (.lst xs)] step st = mkLst live vs st1 := lcV_of (ps := [.lst xs]) rfl hl
theorem lcV_tup {live : Bool} {xs : List PV} {step} {st st1 : Store} {vs : List LV} (hl : lcLoop step xs st = some (vs, st1)) : lcV live .val [.pv (.tup xs)] step st = mkLst live vs st1 := lcV_of (ps := [.tup xs]) rfl hl
theorem lcV_str {live : Bool} {s : Sg} (h : s.length ≤ line) {step} {st st1 : Store} {vs : List LV} (hl : lcLoop step (s.map fun c => .str [c]) st = some (vs, st1)) : lcV live .val [.pv (.str s)] step st = mkLst live vs st1 := lcV_of (ps := [.str s]) (items_str h) hl
end Z
namespace Z
/-! ### where nothing but the feed stands -/
def Fed (st : Store) : Prop := ∃ F : Fd, st = [F.cell]
theorem Fd.below (F : Fd) : Cell.below 1 F.cell = true := by
  simp [Fd.cell, feedC, Cell.below, belows, Z.below]
section
variable {P : Prog} {n f : Nat} {st st1 : Store}
theorem fed_draw (hd : P.defs[f]? = some drawMD) (h : Fed st) {m : Int} (h1 : 0 < m) (h2 : m < 1073741824) :
    ∃ (k : Nat) (st' : Store), (P.sem (n + 1)).call f [.ref 0, .pv (.int m)] st = some (.ok (.pv (.int (k : Int))) st') ∧ (k : Int) < m ∧ Fed st' := by
  obtain ⟨F, rfl⟩ := h
  obtain ⟨k, e, hk⟩ := draw_nat F h1 h2
  refine ⟨k, _, ?_, hk, ⟨(F.draw m).2, rfl⟩⟩
  rw [draw0 hd F h1 h2, e]
/-- a def that is handed the feed -/
theorem call_fed {vs : List LV} {p : PV} {g : Store} {F' : Fd} (h : Fed st) (e : P.cal n f (.ref 0 :: vs) st = some (.ok (.pv p) (F'.cell :: g))) : (P.sem n).call f (.ref 0 :: vs) st = some (.ok (.pv p) [F'.cell]) := by
  obtain ⟨F, rfl⟩ := h
  have e' : (P.sem n).cal f (.ref 0 :: vs) [F.cell] = some (.ok (.pv p) (F'.cell :: g)) := e
  have ht : ∀ b, b = true → trunc [F.cell].length b (F'.cell :: g) = [F'.cell] := fun b hb => by
    subst hb
    simp [trunc, F'.below]
  unfold Sem.call
  have hu : unpv (LV.ref 0 :: vs) = none := rfl
  rw [hu]
  cases (P.sem n).shr f <;> simp only [e', ht _ (show below [F.cell].length (.pv p) = true from rfl)]
theorem call_fed' {vs : List LV} {p : PV} (h : Fed st) (e : P.cal n f (.ref 0 :: vs) st = some (.ok (.pv p) st1)) (h1 : Fed st1) : (P.sem n).call f (.ref 0 :: vs) st = some (.ok (.pv p) st1) := by
  obtain ⟨F', rfl⟩ := h1
  exact call_fed h e
end
/-- a comprehension that goes through -/
theorem lcLoop_inv {step : PV → Store → Option ERs} (I : Store → Prop) (Q : LV → Prop) : ∀ (xs : List PV) (st : Store), I st →
    (∀ x ∈ xs, ∀ st, I st → ∃ v st', step x st = some (.ok [v] st') ∧ I st' ∧ Q v) → ∃ vs st', lcLoop step xs st = some (vs, st') ∧ I st' ∧ vs.length = xs.length ∧ ∀ v ∈ vs, Q v
  | [], st, h, _ => ⟨[], st, rfl, h, rfl, fun v hv => by simp at hv⟩
  | x :: xs, st, h, hs => by
    obtain ⟨v, st1, e1, i1, q1⟩ := hs x (by simp) st h
    obtain ⟨vs, st2, e2, i2, l2, q2⟩ := lcLoop_inv I Q xs st1 i1 fun y hy => hs y (by simp [hy])
    refine ⟨v :: vs, st2, ?_, i2, by simp [l2], fun w hw => ?_⟩
    · unfold lcLoop
      rw [e1]
      simp only [noX, e2, List.singleton_append]
    · rcases List.mem_cons.mp hw with z | z
      · rw [z]; exact q1
      · exact q2 w z
end Z
end

section
/-! ZX: more plain lemmas: calls that keep the store's length, loops, draws. -/
namespace Z
section
variable {P : Prog} {n f : Nat} {st st1 : Store}
theorem trunc_len {st1 st : Store} {b : Bool} (h : st1.length = st.length) : trunc st.length b st1 = st1 := by
  unfold trunc
  split
  · rw [List.take_of_length_le (by omega)]
  · rfl
theorem call_len {vs : List LV} {v : LV} (hu : unpv vs = none) (h : P.cal n f vs st = some (.ok v st1)) (hl : st1.length = st.length) : (P.sem n).call f vs st = some (.ok v st1) := by
  have h' : (P.sem n).cal f vs st = some (.ok v st1) := h
  unfold Sem.call
  rw [hu]
  cases (P.sem n).shr f <;> simp only [h', trunc_len hl]
theorem callx_len {vs : List LV} {e : Ex} (hu : unpv vs = none) (h : P.cal n f vs st = some (.ex e st1)) (hl : st1.length = st.length) : (P.sem n).call f vs st = some (.ex e st1) := by
  have h' : (P.sem n).cal f vs st = some (.ex e st1) := h
  unfold Sem.call
  rw [hu]
  cases (P.sem n).shr f <;> simp only [h', trunc_len hl]
end
theorem make_of {P : Prog} {n C f : Nat} {vs : List LV} {st st1 : Store} (h : P.cal n f (.ref st.length :: vs) (st ++ [.ins C []]) = some (.ok (.pv .non) st1)) (hl : st1.length = st.length + 1) : (P.sem (n + 1)).make C f vs st = some (.ok (.ref st.length) st1) := by
  have h' : (P.sem (n + 1)).cal1 f (.ref st.length :: vs) (st ++ [.ins C []]) = some (.ok (.pv .non) st1) := h
  unfold Sem.make
  rw [h']
  simp only
  have : trunc (st.length + 1) true st1 = st1 := by
    unfold trunc
    split
    · rw [List.take_of_length_le (by omega)]
    · rfl
  rw [this]
theorem whLoop_false {c : Slots → Store → Option ET} {b : Slots → Store → Option FR} {n : Nat} {φ : Slots} {st : Store} (h : c φ st = some (.ok false st)) : whLoop c b (n + 1) φ st = some (.nx φ st) := by
  simp [whLoop, h, T.bf]
theorem whLoop_true {c : Slots → Store → Option ET} {b : Slots → Store → Option FR} {n : Nat} {φ φ' : Slots} {st st1 st' : Store} (h : c φ st = some (.ok true st1)) (h2 : b φ st1 = some (.nx φ' st')) : whLoop c b (n + 1) φ st = whLoop c b n φ' st' := by
  simp [whLoop, h, h2, T.bf]
theorem upto_mem {n : Nat} {x : PV} (h : x ∈ (upto 0 n).map PV.int) : ∃ k : Nat, k < n ∧ x = .int (k : Int) := by
  obtain ⟨i, hi, e⟩ := List.mem_map.mp h
  obtain ⟨k, hk, e2⟩ := List.mem_iff_getElem.mp hi
  rw [upto_length] at hk
  refine ⟨k, hk, ?_⟩
  have := upto_get 0 n k hk
  rw [List.getElem?_eq_getElem (by rw [upto_length]; exact hk), e2] at this
  cases this
  rw [← e]; simp
theorem forLoop_or {step : PV → Slots → Store → Option FR} (I : Slots → Store → Prop) (Q : LV → Store → Prop) : ∀ (xs : List PV) (φ : Slots) (st : Store), I φ st →
    (∀ x φ st, I φ st → (∃ φ' st', step x φ st = some (.nx φ' st') ∧ I φ' st') ∨ ∃ v st', step x φ st = some (.rt v st') ∧ Q v st') →
    (∃ φ' st', forLoop step xs φ st = some (.nx φ' st') ∧ I φ' st') ∨ ∃ v st', forLoop step xs φ st = some (.rt v st') ∧ Q v st'
  | [], φ, st, h, _ => .inl ⟨φ, st, rfl, h⟩
  | x :: xs, φ, st, h, hs => by
    rw [forLoop_cons]
    rcases hs x φ st h with ⟨φ', st', e, i⟩ | ⟨v, st', e, q⟩
    · rw [e]
      exact forLoop_or I Q xs φ' st' i hs
    · rw [e]
      exact .inr ⟨v, st', rfl, q⟩
def HasF (st : Store) : Prop := ∃ F : Fd, st[0]? = some F.cell
theorem hasF_draw {P : Prog} {f n : Nat} (hd : P.defs[f]? = some drawMD) {st : Store} (h : HasF st) {m : Int} (h1 : 0 < m) (h2 : m < 1073741824) : ∃ (k : Nat) (st' : Store), (P.sem (n + 1)).call f [.ref 0, .pv (.int m)] st = some (.ok (.pv (.int (k : Int))) st') ∧ (k : Int) < m ∧ HasF st' ∧ st'.length = st.length ∧ st'.tail = st.tail := by
  obtain ⟨F, hF⟩ := h
  obtain ⟨k, e, hk⟩ := draw_nat F h1 h2
  have c := draw_call (P := P) (n := n) hd F h1 h2 hF
  rw [e] at c
  exact ⟨k, _, c, hk, ⟨(F.draw m).2, by
    rw [List.getElem?_set_self]
    exact (List.getElem?_eq_some_iff.mp hF).1⟩, by simp, by cases st <;> simp⟩
theorem hasF_draw' {P : Prog} {f n : Nat} (hd : P.defs[f]? = some drawMD) {st : Store} (h : HasF st) {m : Int} (h1 : 0 < m) (h2 : m < 1073741824) : ∃ (k : Nat) (st' : Store), (P.sem (n + 1)).call f [.ref 0, .pv (.int m)] st = some (.ok (.pv (.int (k : Int))) st') ∧ (k : Int) < m ∧ HasF st' ∧ st'.length = st.length ∧ ∀ r, r ≠ 0 → st'[r]? = st[r]? := by
  obtain ⟨k, st', e, hk, hf, hl, ht⟩ := hasF_draw (n := n) hd h h1 h2
  refine ⟨k, st', e, hk, hf, hl, fun r hr => ?_⟩
  cases st with
  | nil => cases st' with
    | nil => rfl
    | cons _ _ => simp at hl
  | cons a st => cases st' with
    | nil => simp at hl
    | cons b st' =>
      simp only [List.tail_cons] at ht
      subst ht
      cases r with
      | zero => exact absurd rfl hr
      | succ r => rfl
theorem hasF_cons {st : Store} (h : HasF st) : ∃ (F : Fd) (g : Store), st = F.cell :: g := by
  obtain ⟨F, hF⟩ := h
  cases st with
  | nil => simp at hF
  | cons c g =>
    simp at hF
    exact ⟨F, g, by rw [hF]⟩
theorem hasF_app {st g : Store} (h : HasF st) : HasF (st ++ g) := by
  obtain ⟨F, hF⟩ := h
  exact ⟨F, by rw [List.getElem?_append_left (List.getElem?_eq_some_iff.mp hF).1]; exact hF⟩
theorem hasF_set {st : Store} (h : HasF st) {r : Nat} (hr : r ≠ 0) (c : Cell) : HasF (st.set r c) := by
  obtain ⟨F, hF⟩ := h
  exact ⟨F, by rw [List.getElem?_set_ne (by omega)]; exact hF⟩
theorem Fed.hasF {st : Store} (h : Fed st) : HasF st := by
  obtain ⟨F, rfl⟩ := h
  exact ⟨F, rfl⟩
/-- a def handed the feed gives a tree: what it made is gone -/
theorem fed_of {P : Prog} {n f : Nat} {vs : List LV} {p : PV} {st st' : Store} (h : Fed st) (e : P.cal n f (.ref 0 :: vs) st = some (.ok (.pv p) st')) (h' : HasF st') : ∃ st1, (P.sem n).call f (.ref 0 :: vs) st = some (.ok (.pv p) st1) ∧ Fed st1 := by
  obtain ⟨F, g, rfl⟩ := hasF_cons h'
  exact ⟨_, call_fed h e, F, rfl⟩
theorem strs_one : ∀ ys : List Nat, strsOf (ys.map fun y => PV.str [y]) = some (ys.map fun y => [y])
  | [] => rfl
  | y :: ys => by simp [strsOf, strs_one ys]
theorem strsOf_map : ∀ ys : List Sg, strsOf (ys.map PV.str) = some ys
  | [] => rfl
  | y :: ys => by simp [strsOf, strsOf_map ys]
theorem join_nil : ∀ ys : List Sg, joinS [] ys = ys.flatten
  | [] => rfl
  | [y] => by simp [joinS]
  | y :: z :: ys => by
    have := join_nil (z :: ys)
    simp only [joinS, this]
    simp
theorem do_joinS (ys : List Sg) (h : ys.flatten.length ≤ line) (st : Store) : doBM .join (.pv (.str [])) [.pv (.lst (ys.map .str))] st = some (.ok (.pv (.str ys.flatten)) st) := by
  have e : (ys.map fun s : Sg => s.length).sum = ys.flatten.length := by rw [List.length_flatten]
  simp only [doBM, peek_pv, strsOf_map, join_nil]
  have h0 : (ys.map fun s : Sg => s.length).sum + ys.length * ([] : Sg).length ≤ line := by rw [e, List.length_nil, Nat.mul_zero, Nat.add_zero]; exact h
  rw [if_pos h0]
@[simp] theorem slc_tup (xs : List PV) (lo hi : Option Int) : doSlc (.tup xs) lo hi = some (.tup (cut xs lo hi)) := rfl
@[simp] theorem slc_lst (xs : List PV) (lo hi : Option Int) : doSlc (.lst xs) lo hi = some (.lst (cut xs lo hi)) := rfl
theorem slc_str {s : Sg} (h : s.length ≤ line) (lo hi : Option Int) : doSlc (.str s) lo hi = some (.str (cut s lo hi)) := by simp only [doSlc, if_pos h]
theorem cut1 {α : Type} (x : α) (xs : List α) : cut (x :: xs) (some 1) none = xs := by
  have := cut_from (x :: xs) (k := 1) (by simp)
  simpa using this
theorem sq_ref {st : Store} {r : Nat} {b : Bool} {L : List LV} (h : st[r]? = some (.lst b L)) : sq st (.ref r) = some L := by simp only [sq, h]
@[simp] theorem sq_pv (st : Store) (ps : List PV) : sq st (.pv (.lst ps)) = some (ps.map .pv) := rfl
theorem drop_more {α : Type} {t : List α} {k : Nat} {x r : List α} (h : t.drop k = x ++ r) : t.drop (k + x.length) = r := by
  have := congrArg (List.drop x.length) h
  rw [List.drop_drop, List.drop_left] at this
  exact this
theorem drop_le {α : Type} {t : List α} {k : Nat} {c : α} {r : List α} (h : t.drop k = c :: r) : k + 1 ≤ t.length := by
  have := congrArg List.length h
  rw [List.length_drop] at this
  simp at this
  omega
theorem drop_get {α : Type} {t : List α} {k : Nat} {c : α} {r : List α} (h : t.drop k = c :: r) : t[k]? = some c := by
  have := congrArg (fun l : List α => l[0]?) h
  simpa using this
/-! ### a live list of live lists, the last one ahead -/
section
variable {α : Type} (f : α → List LV)
def SCells (st : Store) : List Nat → List α → Prop
  | [], [] => True
  | r :: rs, h :: hs => st[r]? = some (.lst true (f h)) ∧ SCells st rs hs
  | _, _ => False
structure Stack (st : Store) (b : Nat) (rs : List Nat) (hs : List α) : Prop where
  top : st[b]? = some (.lst true (rs.reverse.map .ref))
  cells : SCells f st rs hs
  nd : (b :: rs).Nodup
variable {f}
theorem SCells.len {st : Store} : ∀ {rs : List Nat} {hs : List α}, SCells f st rs hs → rs.length = hs.length
  | [], [], _ => rfl
  | [], _ :: _, h => h.elim
  | _ :: _, [], h => h.elim
  | r :: rs, x :: hs, h => by simp [SCells.len h.2]
theorem SCells.keep {st st' : Store} : ∀ {rs : List Nat} {hs : List α}, (∀ r ∈ rs, st'[r]? = st[r]?) → SCells f st rs hs → SCells f st' rs hs
  | [], [], _, _ => trivial
  | [], _ :: _, _, h => h.elim
  | _ :: _, [], _, h => h.elim
  | r :: rs, x :: hs, k, h => ⟨by rw [k r (by simp)]; exact h.1, SCells.keep (fun q hq => k q (by simp [hq])) h.2⟩
theorem SCells.lt {st : Store} : ∀ {rs : List Nat} {hs : List α}, SCells f st rs hs → ∀ r ∈ rs, r < st.length
  | [], [], _, r, hr => by simp at hr
  | [], _ :: _, h, _, _ => h.elim
  | _ :: _, [], h, _, _ => h.elim
  | q :: rs, x :: hs, h, r, hr => by
    rcases List.mem_cons.mp hr with e | e
    · subst e
      exact (List.getElem?_eq_some_iff.mp h.1).1
    · exact SCells.lt h.2 r e
/-- one more -/
theorem Stack.open_ {st : Store} {b : Nat} {rs : List Nat} {hs : List α} (R : Stack f st b rs hs) (h : α) : Stack f ((st ++ [Cell.lst true (f h)]).set b (.lst true ((st.length :: rs).reverse.map .ref))) b (st.length :: rs) (h :: hs) := by
  have h0 : b < st.length := (List.getElem?_eq_some_iff.mp R.top).1
  have lt := R.cells.lt
  have nd := List.nodup_cons.mp R.nd
  refine ⟨?_, ⟨?_, SCells.keep (fun r hr => ?_) R.cells⟩, ?_⟩
  · rw [List.getElem?_set_self (by simp; omega)]
  · rw [List.getElem?_set_ne (by omega)]
    simp
  · have hne : r ≠ b := fun e => nd.1 (by rw [← e]; exact hr)
    rw [List.getElem?_set_ne (by omega), List.getElem?_append_left (lt r hr)]
  · refine List.nodup_cons.mpr ⟨?_, List.nodup_cons.mpr ⟨fun z => Nat.lt_irrefl _ (lt _ z), nd.2⟩⟩
    intro z
    rcases List.mem_cons.mp z with e | e
    · omega
    · exact nd.1 e
/-- the last one becomes another one -/
theorem Stack.put {st : Store} {b r : Nat} {rs : List Nat} {h : α} {hs : List α} (R : Stack f st b (r :: rs) (h :: hs)) (h' : α) : Stack f (st.set r (.lst true (f h'))) b (r :: rs) (h' :: hs) := by
  have lt := R.cells.lt
  have nd := List.nodup_cons.mp R.nd
  have nd2 := List.nodup_cons.mp nd.2
  refine ⟨?_, ⟨?_, SCells.keep (fun q hq => ?_) R.cells.2⟩, R.nd⟩
  · rw [List.getElem?_set_ne (fun e => nd.1 (by simp [e]))]
    exact R.top
  · rw [List.getElem?_set_self (lt r (by simp))]
  · exact List.getElem?_set_ne (fun e => nd2.1 (by rw [e]; exact hq))
/-- the last one is gone -/
theorem Stack.pop {st : Store} {b r : Nat} {rs : List Nat} {h : α} {hs : List α} (R : Stack f st b (r :: rs) (h :: hs)) : Stack f (st.set b (.lst true (rs.reverse.map .ref))) b rs hs := by
  have h0 : b < st.length := (List.getElem?_eq_some_iff.mp R.top).1
  have nd := List.nodup_cons.mp R.nd
  have nd2 := List.nodup_cons.mp nd.2
  refine ⟨List.getElem?_set_self h0, SCells.keep (fun q hq => ?_) R.cells.2, List.nodup_cons.mpr ⟨fun z => nd.1 (by simp [z]), nd2.2⟩⟩
  exact List.getElem?_set_ne (fun e => nd.1 (by rw [e]; simp [hq]))
/-- another cell changes -/
theorem Stack.other {st : Store} {b k : Nat} {rs : List Nat} {hs : List α} (R : Stack f st b rs hs) (hk : k ∉ b :: rs) (c : Cell) : Stack f (st.set k c) b rs hs := by
  refine ⟨?_, SCells.keep (fun q hq => ?_) R.cells, R.nd⟩
  · rw [List.getElem?_set_ne (fun e => hk (by simp [e]))]
    exact R.top
  · exact List.getElem?_set_ne (fun e => hk (by simp [e, hq]))
theorem Stack.getLast {st : Store} {b r : Nat} {rs : List Nat} {h : α} {hs : List α} (R : Stack f st b (r :: rs) (h :: hs)) : getI (.ref b) (.pv (.int (-1))) st = some (.ok (.ref r) st) := getI_ref R.top (by
  rw [List.reverse_cons, List.map_append]
  exact atI_last _ _)
theorem Stack.lenB {st : Store} {b : Nat} {rs : List Nat} {hs : List α} (R : Stack f st b rs hs) : lenL (.ref b) st = some hs.length := by
  have := lenL_ref R.top
  rw [List.length_map, List.length_reverse, R.cells.len] at this
  exact this
theorem Stack.lenH {st : Store} {b r : Nat} {rs : List Nat} {h : α} {hs : List α} (R : Stack f st b (r :: rs) (h :: hs)) : lenL (.ref r) st = some (f h).length := lenL_ref R.cells.1
theorem Stack.doPop {st : Store} {b r : Nat} {rs : List Nat} {h : α} {hs : List α} (R : Stack f st b (r :: rs) (h :: hs)) : doBM .pop0 (.ref b) [] st = some (.ok (.ref r) (st.set b (.lst true (rs.reverse.map .ref)))) := do_pop (by
  have := R.top
  rw [List.reverse_cons, List.map_append] at this
  exact this)
theorem Stack.doOpen {st : Store} {b : Nat} {rs : List Nat} {hs : List α} (R : Stack f st b rs hs) (hl : hs.length < line) (L : List LV) : doBM .append (.ref b) [.ref st.length] (st ++ [Cell.lst true L]) = some (.ok (.pv .non) ((st ++ [Cell.lst true L]).set b (.lst true ((st.length :: rs).reverse.map .ref)))) := by
  have h0 : b < st.length := (List.getElem?_eq_some_iff.mp R.top).1
  rw [do_append (L := rs.reverse.map .ref) (by rw [List.getElem?_append_left h0]; exact R.top) (by rw [List.length_map, List.length_reverse, R.cells.len]; exact hl)]
  simp
end
section
variable {S : Sem} {t : MT} {A E rest : List MS} {φ : Slots} {st st1 : Store}
theorem seq_one (r : Option FR) : (seqS (a := r) fun φ st => some (.nx φ st)) = r := by
  cases r with
  | none => rfl
  | some r => cases r <;> rfl
theorem exSs_app (A B : List MS) : ∀ (φ : Slots) (st : Store), exSs S (A ++ B) φ st = seqS (a := exSs S A φ st) (exSs S B) := by
  induction A with
  | nil => exact fun _ _ => rfl
  | cons s A ih =>
    intro φ st
    rw [List.cons_append, exSs_cons, exSs_cons]
    cases exS S s φ st with
    | none => rfl
    | some r => cases r <;> first | rfl | exact ih _ _
theorem exSs_one (s : MS) : exSs S [s] φ st = exS S s φ st := seq_one _
theorem exS_iff_t (h : evT S t φ st = some (.ok true st1)) : exS S (.iff t A E) φ st = exSs S A φ st1 := by
  simp only [exS_iff, h, Z.T.bf_ok, if_true]
theorem exS_iff_f (h : evT S t φ st = some (.ok false st1)) : exS S (.iff t A E) φ st = exSs S E φ st1 := by
  simp only [exS_iff, h, Z.T.bf_ok, Bool.false_eq_true, if_false]
theorem iff1_t (h : evT S t φ st = some (.ok true st1)) : exSs S [.iff t A E] φ st = exSs S A φ st1 := by rw [exSs_one, exS_iff_t h]
theorem iff1_f (h : evT S t φ st = some (.ok false st1)) : exSs S [.iff t A E] φ st = exSs S E φ st1 := by rw [exSs_one, exS_iff_f h]
end
/-- a walk that leaves the store alone -/
theorem lcWalk_pure {step : LV → Store → Option ERs} {n : Nat} {st : Store} {b : Bool} {ys : List LV} (h : st[n]? = some (.lst b ys)) (g : LV → List LV) (hs : ∀ x ∈ ys, step x st = some (.ok (g x) st)) : ∀ (f i : Nat), i ≤ ys.length → ys.length < f + i → lcWalk step n f i st = some (((ys.drop i).map g).flatten, st)
  | 0, i, hi, hf => by omega
  | f + 1, i, hi, hf => by
    unfold lcWalk
    rw [h]
    simp only
    cases hx : ys[i]? with
    | none =>
      rw [List.drop_of_length_le (List.getElem?_eq_none_iff.mp hx)]
      rfl
    | some x =>
      have hi : i < ys.length := (List.getElem?_eq_some_iff.mp hx).1
      have hm : x ∈ ys := List.mem_of_getElem? hx
      simp only [hs x hm, noX]
      rw [lcWalk_pure h g hs f (i + 1) hi (by omega), List.drop_eq_getElem_cons hi]
      have : ys[i] = x := (List.getElem?_eq_some_iff.mp hx).2
      rw [this]
      simp
end Z
end

section
namespace Z51
open Z
abbrev pw : PySem.Program := PySem.Challenge.pw_oncelinks_k51_whole_steps_of_codes
def top (i : Nat) : PySem.Stmt := pw.main.body.getD i (.Pass ⟨0, 0, 0, 0⟩)
def cbody (s : PySem.Stmt) : List PySem.Stmt := match s with
  | .ClassDef _ _ _ b _ _ _ _ _ _ _ => b
  | _ => []
def inC (i j : Nat) : PySem.Stmt := (cbody (top i)).getD j (.Pass ⟨0, 0, 0, 0⟩)
/-- name_number -/
def m0 : MD := ⟨1, 2, [.asg (.nm 1) (.bi .len [.glb 0]), .iff (.cmp .lt (.var 0) (.var 1)) [.ret (.idx (.glb 0) (.var 0))] [], .ret (.bin .add (.idx (.glb 0) (.bin .sub (.bin .fdiv (.var 0) (.var 1)) (.lit (.int 1)))) (.idx (.glb 0) (.bin .mod (.var 0) (.var 1))))]⟩
def q0 : DD := ⟨m0, ["number", "many"], ⟨("name_number", none), "name_number", "name_number", L2.defArgs (top 10), L2.defBody (top 10), L2.defScope (top 10), [], []⟩⟩
/-- named -/
def m1 : MD := ⟨3, 9, [.iff (.cmp .eq (.idx (.var 0) (.lit (.int 0))) (.glb 1)) [.ret (.tup [.tup [.glb 1, .bm .get2 (.var 1) [.idx (.var 0) (.lit (.int 1)), .idx (.var 0) (.lit (.int 1))]], .var 2])] [], .iff (.cmp .eq (.idx (.var 0) (.lit (.int 0))) (.glb 2)) [.asg (.nm 6) (.call 0 [.var 2]), .asg (.nm 7) (.dcopy (.var 1)), .asgI (.var 7) (.idx (.var 0) (.lit (.int 1))) (.var 6), .asg (.tp [.nm 8, .nm 4]) (.call 1 [.idx (.var 0) (.lit (.int 2)), .var 7, .bin .add (.var 2) (.lit (.int 1))]), .ret (.tup [.tup [.glb 2, .var 6, .var 8], .var 4])] [], .asg (.tp [.nm 3, .nm 4]) (.call 1 [.idx (.var 0) (.lit (.int 1)), .var 1, .var 2]), .asg (.tp [.nm 5, .nm 4]) (.call 1 [.idx (.var 0) (.lit (.int 2)), .var 1, .var 4]), .ret (.tup [.tup [.glb 3, .var 3, .var 5], .var 4])]⟩
def q1 : DD := ⟨m1, ["term", "names", "number", "first", "after", "second", "name", "inner", "body"], ⟨("named", none), "named", "named", L2.defArgs (top 11), L2.defBody (top 11), L2.defScope (top 11), [], []⟩⟩
/-- plain_names -/
def m2 : MD := ⟨1, 1, [.ret (.idx (.call 1 [.var 0, .frz (.dnew false), .lit (.int 0)]) (.lit (.int 0)))]⟩
def q2 : DD := ⟨m2, ["term"], ⟨("plain_names", none), "plain_names", "plain_names", L2.defArgs (top 12), L2.defBody (top 12), L2.defScope (top 12), [], []⟩⟩
/-- parts_at -/
def m3 : MD := ⟨1, 1, [.iff (.cmp .eq (.idx (.var 0) (.lit (.int 0))) (.glb 1)) [.ret (.lst false [])] [], .iff (.cmp .eq (.idx (.var 0) (.lit (.int 0))) (.glb 2)) [.ret (.lst false [.tup [.lit (.str [48]), .idx (.var 0) (.lit (.int 2))]])] [], .ret (.lst false [.tup [.lit (.str [48]), .idx (.var 0) (.lit (.int 1))], .tup [.lit (.str [49]), .idx (.var 0) (.lit (.int 2))]])]⟩
def q3 : DD := ⟨m3, ["term"], ⟨("parts_at", none), "parts_at", "parts_at", L2.defArgs (top 14), L2.defBody (top 14), L2.defScope (top 14), [], []⟩⟩
/-- can_step -/
def m4 : MD := ⟨1, 1, [.ret (.boolop true [.cmp .eq (.idx (.var 0) (.lit (.int 0))) (.glb 3), .cmp .eq (.idx (.idx (.var 0) (.lit (.int 1))) (.lit (.int 0))) (.glb 2)])]⟩
def q4 : DD := ⟨m4, ["term"], ⟨("can_step", none), "can_step", "can_step", L2.defArgs (top 15), L2.defBody (top 15), L2.defScope (top 15), [], []⟩⟩
/-- places_of_steps -/
def m5 : MD := ⟨2, 5, [.asg (.nm 2) (.ite (.val (.call 4 [.var 0])) (.lst true [.var 1]) (.lst true [])), .for_ (.tp [.nm 3, .nm 4]) .val [.call 3 [.var 0]] [.ex (.bm .extend (.var 2) [.call 5 [.var 4, .bin .add (.var 1) (.var 3)]])], .ret (.frz (.var 2))]⟩
def q5 : DD := ⟨m5, ["term", "place", "found", "sign", "part"], ⟨("places_of_steps", none), "places_of_steps", "places_of_steps", L2.defArgs (top 16), L2.defBody (top 16), L2.defScope (top 16), [], []⟩⟩
/-- steps_at -/
def m6 : MD := ⟨1, 1, [.ret (.bi .sorted [.call 5 [.var 0, .lit (.str [])]])]⟩
def q6 : DD := ⟨m6, ["term"], ⟨("steps_at", none), "steps_at", "steps_at", L2.defArgs (top 17), L2.defBody (top 17), L2.defScope (top 17), [], []⟩⟩
/-- put_for -/
def m7 : MD := ⟨3, 3, [.iff (.cmp .eq (.idx (.var 0) (.lit (.int 0))) (.glb 1)) [.ret (.ite (.cmp .eq (.idx (.var 0) (.lit (.int 1))) (.var 1)) (.var 2) (.var 0))] [], .iff (.cmp .eq (.idx (.var 0) (.lit (.int 0))) (.glb 2)) [.ret (.tup [.glb 2, .idx (.var 0) (.lit (.int 1)), .call 7 [.idx (.var 0) (.lit (.int 2)), .var 1, .var 2]])] [], .ret (.tup [.glb 3, .call 7 [.idx (.var 0) (.lit (.int 1)), .var 1, .var 2], .call 7 [.idx (.var 0) (.lit (.int 2)), .var 1, .var 2]])]⟩
def q7 : DD := ⟨m7, ["term", "name", "other"], ⟨("put_for", none), "put_for", "put_for", L2.defArgs (top 18), L2.defBody (top 18), L2.defScope (top 18), [], []⟩⟩
/-- with_part -/
def m8 : MD := ⟨3, 3, [.iff (.cmp .eq (.idx (.var 0) (.lit (.int 0))) (.glb 2)) [.ret (.tup [.glb 2, .idx (.var 0) (.lit (.int 1)), .var 2])] [], .iff (.cmp .eq (.var 1) (.lit (.str [48]))) [.ret (.tup [.glb 3, .var 2, .idx (.var 0) (.lit (.int 2))])] [], .ret (.tup [.glb 3, .idx (.var 0) (.lit (.int 1)), .var 2])]⟩
def q8 : DD := ⟨m8, ["term", "sign", "part"], ⟨("with_part", none), "with_part", "with_part", L2.defArgs (top 19), L2.defBody (top 19), L2.defScope (top 19), [], []⟩⟩
/-- step_at -/
def m9 : MD := ⟨2, 4, [.iff (.cmp .eq (.var 1) (.lit (.str []))) [.iff (.not (.val (.call 4 [.var 0]))) [.raise 1 []] [], .ret (.call 7 [.idx (.idx (.var 0) (.lit (.int 1))) (.lit (.int 2)), .idx (.idx (.var 0) (.lit (.int 1))) (.lit (.int 1)), .idx (.var 0) (.lit (.int 2))])] [], .for_ (.tp [.nm 2, .nm 3]) .val [.call 3 [.var 0]] [.iff (.cmp .eq (.var 2) (.idx (.var 1) (.lit (.int 0)))) [.ret (.call 8 [.var 0, .var 2, .call 9 [.var 3, .slc (.var 1) true (.lit (.int 1)) false (.lit .non)]])] []], .raise 1 []]⟩
def q9 : DD := ⟨m9, ["term", "place", "sign", "part"], ⟨("step_at", none), "step_at", "step_at", L2.defArgs (top 20), L2.defBody (top 20), L2.defScope (top 20), [], []⟩⟩
/-- ways_to_end -/
def m10 : MD := ⟨1, 3, [.asg (.nm 1) (.lst true [.var 0]), .asg (.nm 2) (.call 6 [.var 0]), .whl (.val (.var 2)) [.ex (.bm .append (.var 1) [.call 9 [.idx (.var 1) (.neg (.lit (.int 1))), .idx (.var 2) (.lit (.int 0))]]), .asg (.nm 2) (.call 6 [.idx (.var 1) (.neg (.lit (.int 1)))])], .ret (.frz (.var 1))]⟩
def q10 : DD := ⟨m10, ["term", "found", "places"], ⟨("ways_to_end", none), "ways_to_end", "ways_to_end", L2.defArgs (top 21), L2.defBody (top 21), L2.defScope (top 21), [], []⟩⟩
/-- ended -/
def m11 : MD := ⟨1, 1, [.ret (.idx (.call 10 [.var 0]) (.neg (.lit (.int 1))))]⟩
def q11 : DD := ⟨m11, ["term"], ⟨("ended", none), "ended", "ended", L2.defArgs (top 22), L2.defBody (top 22), L2.defScope (top 22), [], []⟩⟩
/-- is_use -/
def m12 : MD := ⟨1, 1, [.ret (.isi .tuple (.var 0))]⟩
def q12 : DD := ⟨m12, ["code"], ⟨("is_use", none), "is_use", "is_use", L2.defArgs (top 26), L2.defBody (top 26), L2.defScope (top 26), [], []⟩⟩
/-- stands_in -/
def m13 : MD := ⟨2, 2, [.iff (.val (.call 12 [.var 1])) [.ret (.boolop false [.call 13 [.var 0, .idx (.var 1) (.lit (.int 0))], .call 13 [.var 0, .idx (.var 1) (.lit (.int 1))]])] [], .ret (.cmp .eq (.var 1) (.var 0))]⟩
def q13 : DD := ⟨m13, ["name", "code"], ⟨("stands_in", none), "stands_in", "stands_in", L2.defArgs (top 27), L2.defBody (top 27), L2.defScope (top 27), [], []⟩⟩
/-- code_of_fun -/
def m14 : MD := ⟨2, 4, [.iff (.not (.val (.call 12 [.var 1]))) [.ret (.lit (.str [73]))] [], .asg (.tp [.nm 2, .nm 3]) (.var 1), .iff (.val (.call 13 [.var 0, .var 3])) [.ret (.tup [.tup [.lit (.str [66]), .var 2], .call 14 [.var 0, .var 3]])] [], .ret (.tup [.tup [.lit (.str [67]), .call 14 [.var 0, .var 2]], .var 3])]⟩
def q14 : DD := ⟨m14, ["name", "code", "f", "x"], ⟨("code_of_fun", none), "code_of_fun", "code_of_fun", L2.defArgs (top 28), L2.defBody (top 28), L2.defScope (top 28), [], []⟩⟩
/-- code_of_term -/
def m15 : MD := ⟨1, 1, [.iff (.cmp .eq (.idx (.var 0) (.lit (.int 0))) (.lit (.str [118, 97, 114]))) [.ret (.idx (.var 0) (.lit (.int 1)))] [], .iff (.cmp .eq (.idx (.var 0) (.lit (.int 0))) (.lit (.str [117, 115, 101]))) [.ret (.tup [.call 15 [.idx (.var 0) (.lit (.int 1))], .call 15 [.idx (.var 0) (.lit (.int 2))]])] [], .ret (.call 14 [.idx (.var 0) (.lit (.int 1)), .call 15 [.idx (.var 0) (.lit (.int 2))]])]⟩
def q15 : DD := ⟨m15, ["term"], ⟨("code_of_term", none), "code_of_term", "code_of_term", L2.defArgs (top 29), L2.defBody (top 29), L2.defScope (top 29), [], []⟩⟩
/-- name_of -/
def m16 : MD := ⟨1, 3, [.asg (.nm 1) (.lit (.str [])), .for_ (.nm 2) .range [.lit (.int 4)] [.asg (.nm 1) (.bin .add (.idx (.glb 4) (.bin .mod (.var 0) (.bi .len [.glb 4]))) (.var 1)), .asg (.nm 0) (.bin .fdiv (.var 0) (.bi .len [.glb 4]))], .ret (.var 1)]⟩
def q16 : DD := ⟨m16, ["number", "name", "_"], ⟨("name_of", none), "name_of", "name_of", L2.defArgs (top 30), L2.defBody (top 30), L2.defScope (top 30), [], []⟩⟩
/-- joiner_term -/
def m17 : MD := ⟨2, 7, [.asg (.tp [.nm 2, .nm 3, .nm 4]) (.lc false (.tup [.lit (.str [118, 97, 114]), .call 16 [.bin .add (.var 1) (.var 6)]]) (.nm 6) .range [.lit (.int 3)] [] [6]), .iff (.cmp .eq (.var 0) (.lit (.str [73]))) [.ret (.tup [.lit (.str [102, 117, 110]), .idx (.var 2) (.lit (.int 1)), .var 2])] [], .asg (.nm 5) (.ite (.cmp .eq (.var 0) (.lit (.str [66]))) (.tup [.lit (.str [117, 115, 101]), .var 2, .tup [.lit (.str [117, 115, 101]), .var 3, .var 4]]) (.tup [.lit (.str [117, 115, 101]), .tup [.lit (.str [117, 115, 101]), .var 2, .var 4], .var 3])), .ret (.tup [.lit (.str [102, 117, 110]), .idx (.var 2) (.lit (.int 1)), .tup [.lit (.str [102, 117, 110]), .idx (.var 3) (.lit (.int 1)), .tup [.lit (.str [102, 117, 110]), .idx (.var 4) (.lit (.int 1)), .var 5]]])]⟩
def q17 : DD := ⟨m17, ["joiner", "first", "a", "b", "c", "body", "k"], ⟨("joiner_term", none), "joiner_term", "joiner_term", L2.defArgs (top 31), L2.defBody (top 31), L2.defScope (top 31), [], []⟩⟩
/-- whole_term -/
def m18 : MD := ⟨2, 6, [.iff (.not (.val (.call 12 [.var 0]))) [.ret (.tup [.call 17 [.var 0, .var 1], .bin .add (.var 1) (.lit (.int 3))])] [], .asg (.tp [.nm 2, .nm 3]) (.call 18 [.idx (.var 0) (.lit (.int 0)), .var 1]), .asg (.tp [.nm 4, .nm 5]) (.call 18 [.idx (.var 0) (.lit (.int 1)), .var 3]), .ret (.tup [.tup [.lit (.str [117, 115, 101]), .var 2, .var 4], .var 5])]⟩
def q18 : DD := ⟨m18, ["code", "first", "t", "after", "u", "last"], ⟨("whole_term", none), "whole_term", "whole_term", L2.defArgs (top 32), L2.defBody (top 32), L2.defScope (top 32), [], []⟩⟩
/-- term_of_code -/
def m19 : MD := ⟨1, 1, [.ret (.call 2 [.call 11 [.idx (.call 18 [.var 0, .lit (.int 0)]) (.lit (.int 0))]])]⟩
def q19 : DD := ⟨m19, ["code"], ⟨("term_of_code", none), "term_of_code", "term_of_code", L2.defArgs (top 33), L2.defBody (top 33), L2.defScope (top 33), [], []⟩⟩
/-- unwound -/
def m20 : MD := ⟨1, 3, [.asg (.nm 1) (.lst true []), .whl (.val (.call 12 [.var 0])) [.asg (.tp [.nm 0, .nm 2]) (.var 0), .ex (.bm .insert (.var 1) [.lit (.int 0), .var 2])], .ret (.tup [.var 0, .frz (.var 1)])]⟩
def q20 : DD := ⟨m20, ["code", "rest", "x"], ⟨("unwound", none), "unwound", "unwound", L2.defArgs (top 34), L2.defBody (top 34), L2.defScope (top 34), [], []⟩⟩
/-- put_on -/
def m21 : MD := ⟨2, 3, [.for_ (.nm 2) .val [.var 1] [.asg (.nm 0) (.tup [.var 0, .var 2])], .ret (.var 0)]⟩
def q21 : DD := ⟨m21, ["f", "rest", "x"], ⟨("put_on", none), "put_on", "put_on", L2.defArgs (top 35), L2.defBody (top 35), L2.defScope (top 35), [], []⟩⟩
/-- joined -/
def m22 : MD := ⟨2, 5, [.iff (.cmp .eq (.var 0) (.lit (.str [73]))) [.ret (.idx (.var 1) (.lit (.int 0)))] [], .asg (.tp [.nm 2, .nm 3, .nm 4]) (.var 1), .iff (.cmp .eq (.var 0) (.lit (.str [66]))) [.ret (.tup [.var 2, .tup [.var 3, .var 4]])] [], .ret (.tup [.tup [.var 2, .var 4], .var 3])]⟩
def q22 : DD := ⟨m22, ["joiner", "rest", "f", "x", "y"], ⟨("joined", none), "joined", "joined", L2.defArgs (top 36), L2.defBody (top 36), L2.defScope (top 36), [], []⟩⟩
/-- step_or_none -/
def m23 : MD := ⟨1, 7, [.asg (.tp [.nm 1, .nm 2]) (.call 20 [.var 0]), .asg (.nm 3) (.tabD 0 (.var 1)), .iff (.cmp .ge (.bi .len [.var 2]) (.var 3)) [.ret (.call 21 [.call 22 [.var 1, .slc (.var 2) false (.lit .non) true (.var 3)], .slc (.var 2) true (.var 3) false (.lit .non)])] [], .for_ (.tp [.nm 4, .nm 5]) .enum [.var 2] [.asg (.nm 6) (.call 23 [.var 5]), .iff (.isn true (.var 6)) [.ret (.call 21 [.var 1, .bin .add (.bin .add (.slc (.var 2) false (.lit .non) true (.var 4)) (.lst false [.var 6])) (.slc (.var 2) true (.bin .add (.var 4) (.lit (.int 1))) false (.lit .non))])] []], .ret (.lit (.non))]⟩
def q23 : DD := ⟨m23, ["code", "joiner", "rest", "need", "at", "x", "after"], ⟨("step_or_none", none), "step_or_none", "step_or_none", L2.defArgs (top 37), L2.defBody (top 37), L2.defScope (top 37), [], []⟩⟩
/-- code_step -/
def m24 : MD := ⟨1, 2, [.asg (.nm 1) (.call 23 [.var 0]), .iff (.isn false (.var 1)) [.raise 1 []] [], .ret (.var 1)]⟩
def q24 : DD := ⟨m24, ["code", "after"], ⟨("code_step", none), "code_step", "code_step", L2.defArgs (top 38), L2.defBody (top 38), L2.defScope (top 38), [], []⟩⟩
/-- run_code -/
def m25 : MD := ⟨2, 4, [.asg (.nm 2) (.lit (.int 0)), .asg (.nm 3) (.call 23 [.var 0]), .whl (.isn true (.var 3)) [.iff (.cmp .eq (.var 2) (.var 1)) [.raise 3 [.var 1]] [], .asg (.nm 0) (.var 3), .aug 2 .add (.lit (.int 1)), .asg (.nm 3) (.call 23 [.var 0])], .ret (.tup [.var 0, .var 2])]⟩
def q25 : DD := ⟨m25, ["code", "most", "steps", "after"], ⟨("run_code", none), "run_code", "run_code", L2.defArgs (top 39), L2.defBody (top 39), L2.defScope (top 39), [], []⟩⟩
/-- _law_feed -/
def m26 : MD := ⟨1, 1, [.ret (.lst true [.bi .list [.var 0], .lit (.int 0), .lit (.int 0), .lit (.int 1)])]⟩
def q26 : DD := ⟨m26, ["script"], ⟨("_law_feed", none), "_law_feed", "_law_feed", L2.defArgs (top 41), L2.defBody (top 41), L2.defScope (top 41), [], []⟩⟩
/-- _law_draw -/
def m27 : MD := ⟨2, 5, [.iff (.boolop true [.cmp .eq (.idx (.var 0) (.lit (.int 2))) (.lit (.int 0)), .cmp .lt (.idx (.var 0) (.lit (.int 1))) (.bi .len [.idx (.var 0) (.lit (.int 0))])]) [.asg (.nm 3) (.bi .abs [.bi .int [.idx (.idx (.var 0) (.lit (.int 0))) (.idx (.var 0) (.lit (.int 1)))]]), .augI (.var 0) (.lit (.int 1)) .add (.lit (.int 1)), .iff (.cmp .ge (.var 3) (.bin .pow (.lit (.int 10)) (.lit (.int 18)))) [.asgI (.var 0) (.lit (.int 2)) (.var 3)] [.asgI (.var 0) (.lit (.int 3)) (.bin .mod (.bi .int [.bin .add (.bin .add (.bin .mul (.idx (.var 0) (.lit (.int 3))) (.lit (.int 48271))) (.bin .mul (.var 3) (.lit (.int 69621)))) (.idx (.var 0) (.lit (.int 1)))]) (.lit (.int 2147483647)))]] [], .iff (.cmp .gt (.idx (.var 0) (.lit (.int 2))) (.lit (.int 0))) [.asg (.nm 4) (.bin .mod (.bi .int [.idx (.var 0) (.lit (.int 2))]) (.var 1)), .asgI (.var 0) (.lit (.int 2)) (.bin .fdiv (.idx (.var 0) (.lit (.int 2))) (.var 1)), .ret (.var 4)] [], .asgI (.var 0) (.lit (.int 3)) (.bin .mod (.bi .int [.bin .add (.bin .mul (.idx (.var 0) (.lit (.int 3))) (.lit (.int 16807))) (.lit (.int 12345))]) (.lit (.int 2147483647))), .asg (.nm 2) (.bin .mod (.bi .int [.bin .add (.bin .mul (.idx (.var 0) (.lit (.int 3))) (.idx (.var 0) (.lit (.int 3)))) (.idx (.var 0) (.lit (.int 3)))]) (.lit (.int 2147483629))), .ret (.bin .mod (.bin .fdiv (.var 2) (.lit (.int 11))) (.var 1))]⟩
def q27 : DD := ⟨m27, ["feed", "many", "mixed", "cell", "told"], ⟨("_law_draw", none), "_law_draw", "_law_draw", L2.defArgs (top 42), L2.defBody (top 42), L2.defScope (top 42), [], []⟩⟩
/-- _law_term -/
def m28 : MD := ⟨2, 13, [.asg (.nm 2) (.lc false (.tup [.tup [.lit (.str [118, 97, 114]), .bin .add (.lit (.str [120])) (.idx (.lit (.str [97, 98, 99, 100, 101, 102, 103, 104, 105, 106, 107, 108, 109])) (.var 10))], .lst false [.bin .add (.lit (.str [120])) (.idx (.lit (.str [97, 98, 99, 100, 101, 102, 103, 104, 105, 106, 107, 108, 109])) (.var 10))]]) (.nm 10) .range [.var 1] [] [10]), .for_ (.nm 3) .range [.bin .mul (.lit (.int 4)) (.var 1)] [.asg (.nm 9) (.call 27 [.var 0, .bi .len [.var 2]]), .asg (.tp [.nm 4, .nm 5]) (.idx (.var 2) (.var 9)), .iff (.boolop true [.cmp .gt (.bi .len [.var 5]) (.lit (.int 0)), .boolop false [.cmp .eq (.bi .len [.var 2]) (.lit (.int 1)), .cmp .eq (.call 27 [.var 0, .lit (.int 2)]) (.lit (.int 0))]]) [.asg (.nm 8) (.idx (.var 5) (.call 27 [.var 0, .bi .len [.var 5]])), .asg (.nm 2) (.bin .add (.bin .add (.slc (.var 2) false (.lit .non) true (.var 9)) (.lst false [.tup [.tup [.lit (.str [102, 117, 110]), .var 8, .var 4], .lc false (.var 12) (.nm 12) .val [.var 5] [.cmp .ne (.var 12) (.var 8)] [12]]])) (.slc (.var 2) true (.bin .add (.var 9) (.lit (.int 1))) false (.lit .non)))] [.iff (.cmp .gt (.bi .len [.var 2]) (.lit (.int 1))) [.asg (.nm 11) (.bin .mod (.bi .int [.bin .add (.bin .add (.var 9) (.lit (.int 1))) (.call 27 [.var 0, .bin .sub (.bi .len [.var 2]) (.lit (.int 1))])]) (.bi .len [.var 2])), .asg (.tp [.nm 6, .nm 7]) (.idx (.var 2) (.var 11)), .asg (.nm 2) (.bin .add (.lc false (.idx (.var 2) (.var 10)) (.nm 10) .range [.bi .len [.var 2]] [.cmp .nin (.var 10) (.lst false [.var 9, .var 11])] [10]) (.lst false [.tup [.tup [.lit (.str [117, 115, 101]), .var 4, .var 6], .bin .add (.var 5) (.var 7)]]))] []]], .asg (.tp [.nm 4, .nm 5]) (.idx (.var 2) (.lit (.int 0))), .for_ (.tp [.nm 6, .nm 7]) .val [.slc (.var 2) true (.lit (.int 1)) false (.lit .non)] [.asg (.nm 4) (.tup [.lit (.str [117, 115, 101]), .var 4, .var 6]), .asg (.nm 5) (.bin .add (.var 5) (.var 7))], .for_ (.nm 8) .val [.var 5] [.asg (.nm 4) (.tup [.lit (.str [102, 117, 110]), .var 8, .var 4])], .ret (.var 4)]⟩
def q28 : DD := ⟨m28, ["feed", "many", "pieces", "step", "own", "names", "other", "more", "name", "at", "k", "to", "x"], ⟨("_law_term", none), "_law_term", "_law_term", L2.defArgs (top 43), L2.defBody (top 43), L2.defScope (top 43), [], []⟩⟩
/-- _law_put -/
def m29 : MD := ⟨3, 3, [.iff (.cmp .eq (.idx (.var 0) (.lit (.int 0))) (.lit (.str [118, 97, 114]))) [.ret (.idx (.lst false [.var 0, .var 2]) (.bi .int [.cmp .eq (.idx (.var 0) (.lit (.int 1))) (.var 1)]))] [], .iff (.cmp .eq (.idx (.var 0) (.lit (.int 0))) (.lit (.str [102, 117, 110]))) [.ret (.tup [.lit (.str [102, 117, 110]), .idx (.var 0) (.lit (.int 1)), .call 29 [.idx (.var 0) (.lit (.int 2)), .var 1, .var 2]])] [], .ret (.tup [.lit (.str [117, 115, 101]), .call 29 [.idx (.var 0) (.lit (.int 1)), .var 1, .var 2], .call 29 [.idx (.var 0) (.lit (.int 2)), .var 1, .var 2]])]⟩
def q29 : DD := ⟨m29, ["term", "name", "other"], ⟨("_law_put", none), "_law_put", "_law_put", L2.defArgs (top 44), L2.defBody (top 44), L2.defScope (top 44), [], []⟩⟩
/-- _law_reduced -/
def m30 : MD := ⟨1, 3, [.iff (.cmp .eq (.idx (.var 0) (.lit (.int 0))) (.lit (.str [118, 97, 114]))) [.ret (.lit (.non))] [], .iff (.cmp .eq (.idx (.var 0) (.lit (.int 0))) (.lit (.str [102, 117, 110]))) [.asg (.nm 2) (.call 30 [.idx (.var 0) (.lit (.int 2))]), .iff (.isn false (.var 2)) [.ret (.lit (.non))] [], .ret (.tup [.lit (.str [102, 117, 110]), .idx (.var 0) (.lit (.int 1)), .var 2])] [], .for_ (.nm 1) .val [.lst false [.lit (.int 2), .lit (.int 1)]] [.asg (.nm 2) (.call 30 [.idx (.var 0) (.var 1)]), .iff (.isn true (.var 2)) [.ret (.idx (.lst false [.tup [.lit (.str [117, 115, 101]), .var 2, .idx (.var 0) (.lit (.int 2))], .tup [.lit (.str [117, 115, 101]), .idx (.var 0) (.lit (.int 1)), .var 2]]) (.bin .sub (.var 1) (.lit (.int 1))))] []], .iff (.cmp .eq (.idx (.idx (.var 0) (.lit (.int 1))) (.lit (.int 0))) (.lit (.str [102, 117, 110]))) [.ret (.call 29 [.idx (.idx (.var 0) (.lit (.int 1))) (.lit (.int 2)), .idx (.idx (.var 0) (.lit (.int 1))) (.lit (.int 1)), .idx (.var 0) (.lit (.int 2))])] [], .ret (.lit (.non))]⟩
def q30 : DD := ⟨m30, ["term", "k", "inner"], ⟨("_law_reduced", none), "_law_reduced", "_law_reduced", L2.defArgs (top 45), L2.defBody (top 45), L2.defScope (top 45), [], []⟩⟩
/-- _law_last -/
def m31 : MD := ⟨1, 4, [.asg (.nm 1) (.var 0), .for_ (.nm 2) .range [.lit (.int 400)] [.asg (.nm 3) (.call 30 [.var 1]), .iff (.isn false (.var 3)) [.ret (.var 1)] [], .asg (.nm 1) (.var 3)], .ret (.lit (.non))]⟩
def q31 : DD := ⟨m31, ["term", "here", "step", "after"], ⟨("_law_last", none), "_law_last", "_law_last", L2.defArgs (top 46), L2.defBody (top 46), L2.defScope (top 46), [], []⟩⟩
/-- _law_plain -/
def m32 : MD := ⟨1, 5, [.asg (.nm 1) (.call 33 [.var 0]), .asg (.nm 2) (.dnew false), .for_ (.nm 3) .range [.bi .len [.var 1]] [.asg (.nm 4) (.idx (.lit (.str [97, 98, 99, 100, 101, 102, 103, 104, 105, 106, 107, 108, 109, 110, 111, 112, 113, 114, 115, 116, 117, 118, 119, 120, 121, 122])) (.bin .mod (.bi .int [.var 3]) (.lit (.int 26)))), .iff (.cmp .gt (.var 3) (.lit (.int 25))) [.asg (.nm 4) (.bin .add (.idx (.lit (.str [97, 98, 99, 100, 101, 102, 103, 104, 105, 106, 107, 108, 109, 110, 111, 112, 113, 114, 115, 116, 117, 118, 119, 120, 121, 122])) (.bin .sub (.bin .fdiv (.var 3) (.lit (.int 26))) (.lit (.int 1)))) (.var 4))] [], .asgI (.var 2) (.idx (.var 1) (.var 3)) (.var 4)], .ret (.call 34 [.var 0, .var 2])]⟩
def q32 : DD := ⟨m32, ["term", "order", "names", "k", "name"], ⟨("_law_plain", none), "_law_plain", "_law_plain", L2.defArgs (top 47), L2.defBody (top 47), L2.defScope (top 47), [], []⟩⟩
/-- _law_funs -/
def m33 : MD := ⟨1, 1, [.iff (.cmp .eq (.idx (.var 0) (.lit (.int 0))) (.lit (.str [118, 97, 114]))) [.ret (.lst false [])] [], .iff (.cmp .eq (.idx (.var 0) (.lit (.int 0))) (.lit (.str [102, 117, 110]))) [.ret (.bin .add (.lst false [.idx (.var 0) (.lit (.int 1))]) (.call 33 [.idx (.var 0) (.lit (.int 2))]))] [], .ret (.bin .add (.call 33 [.idx (.var 0) (.lit (.int 1))]) (.call 33 [.idx (.var 0) (.lit (.int 2))]))]⟩
def q33 : DD := ⟨m33, ["term"], ⟨("_law_funs", none), "_law_funs", "_law_funs", L2.defArgs (top 48), L2.defBody (top 48), L2.defScope (top 48), [], []⟩⟩
/-- _law_called -/
def m34 : MD := ⟨2, 2, [.iff (.cmp .eq (.idx (.var 0) (.lit (.int 0))) (.lit (.str [118, 97, 114]))) [.ret (.tup [.lit (.str [118, 97, 114]), .idx (.var 1) (.idx (.var 0) (.lit (.int 1)))])] [], .iff (.cmp .eq (.idx (.var 0) (.lit (.int 0))) (.lit (.str [102, 117, 110]))) [.ret (.tup [.lit (.str [102, 117, 110]), .idx (.var 1) (.idx (.var 0) (.lit (.int 1))), .call 34 [.idx (.var 0) (.lit (.int 2)), .var 1]])] [], .ret (.tup [.lit (.str [117, 115, 101]), .call 34 [.idx (.var 0) (.lit (.int 1)), .var 1], .call 34 [.idx (.var 0) (.lit (.int 2)), .var 1]])]⟩
def q34 : DD := ⟨m34, ["term", "names"], ⟨("_law_called", none), "_law_called", "_law_called", L2.defArgs (top 49), L2.defBody (top 49), L2.defScope (top 49), [], []⟩⟩
/-- _law_code -/
def m35 : MD := ⟨1, 1, [.iff (.cmp .eq (.idx (.var 0) (.lit (.int 0))) (.lit (.str [118, 97, 114]))) [.ret (.idx (.var 0) (.lit (.int 1)))] [], .iff (.cmp .eq (.idx (.var 0) (.lit (.int 0))) (.lit (.str [117, 115, 101]))) [.ret (.tup [.call 35 [.idx (.var 0) (.lit (.int 1))], .call 35 [.idx (.var 0) (.lit (.int 2))]])] [], .ret (.call 36 [.idx (.var 0) (.lit (.int 1)), .call 35 [.idx (.var 0) (.lit (.int 2))]])]⟩
def q35 : DD := ⟨m35, ["term"], ⟨("_law_code", none), "_law_code", "_law_code", L2.defArgs (top 50), L2.defBody (top 50), L2.defScope (top 50), [], []⟩⟩
/-- _law_over -/
def m36 : MD := ⟨2, 2, [.iff (.val (.isi .str (.var 1))) [.ret (.lit (.str [73]))] [], .iff (.val (.call 37 [.var 0, .idx (.var 1) (.lit (.int 1))])) [.ret (.tup [.tup [.lit (.str [66]), .idx (.var 1) (.lit (.int 0))], .call 36 [.var 0, .idx (.var 1) (.lit (.int 1))]])] [], .ret (.tup [.tup [.lit (.str [67]), .call 36 [.var 0, .idx (.var 1) (.lit (.int 0))]], .idx (.var 1) (.lit (.int 1))])]⟩
def q36 : DD := ⟨m36, ["name", "code"], ⟨("_law_over", none), "_law_over", "_law_over", L2.defArgs (top 51), L2.defBody (top 51), L2.defScope (top 51), [], []⟩⟩
/-- _law_within -/
def m37 : MD := ⟨2, 2, [.iff (.val (.isi .str (.var 1))) [.ret (.cmp .eq (.var 1) (.var 0))] [], .ret (.boolop false [.call 37 [.var 0, .idx (.var 1) (.lit (.int 0))], .call 37 [.var 0, .idx (.var 1) (.lit (.int 1))]])]⟩
def q37 : DD := ⟨m37, ["name", "code"], ⟨("_law_within", none), "_law_within", "_law_within", L2.defArgs (top 52), L2.defBody (top 52), L2.defScope (top 52), [], []⟩⟩
/-- _law_joiners -/
def m38 : MD := ⟨1, 1, [.iff (.val (.isi .str (.var 0))) [.ret (.lst false [.var 0])] [], .ret (.bin .add (.call 38 [.idx (.var 0) (.lit (.int 0))]) (.call 38 [.idx (.var 0) (.lit (.int 1))]))]⟩
def q38 : DD := ⟨m38, ["code"], ⟨("_law_joiners", none), "_law_joiners", "_law_joiners", L2.defArgs (top 53), L2.defBody (top 53), L2.defScope (top 53), [], []⟩⟩
/-- _law_told_term -/
def m39 : MD := ⟨2, 6, [.iff (.val (.isi .tuple (.var 0))) [.ret (.tup [.lit (.str [117, 115, 101]), .call 39 [.idx (.var 0) (.lit (.int 0)), .var 1], .call 39 [.idx (.var 0) (.lit (.int 1)), .var 1]])] [], .asg (.nm 2) (.bm .pop0 (.var 1) []), .iff (.cmp .eq (.var 0) (.lit (.str [73]))) [.ret (.tup [.lit (.str [102, 117, 110]), .var 2, .tup [.lit (.str [118, 97, 114]), .var 2]])] [], .asg (.nm 3) (.bm .pop0 (.var 1) []), .asg (.nm 4) (.bm .pop0 (.var 1) []), .asg (.nm 5) (.tup [.lit (.str [117, 115, 101]), .tup [.lit (.str [117, 115, 101]), .tup [.lit (.str [118, 97, 114]), .var 2], .tup [.lit (.str [118, 97, 114]), .var 4]], .tup [.lit (.str [118, 97, 114]), .var 3]]), .iff (.cmp .eq (.var 0) (.lit (.str [66]))) [.asg (.nm 5) (.tup [.lit (.str [117, 115, 101]), .tup [.lit (.str [118, 97, 114]), .var 2], .tup [.lit (.str [117, 115, 101]), .tup [.lit (.str [118, 97, 114]), .var 3], .tup [.lit (.str [118, 97, 114]), .var 4]]])] [], .ret (.tup [.lit (.str [102, 117, 110]), .var 2, .tup [.lit (.str [102, 117, 110]), .var 3, .tup [.lit (.str [102, 117, 110]), .var 4, .var 5]]])]⟩
def q39 : DD := ⟨m39, ["code", "names", "a", "b", "c", "body"], ⟨("_law_told_term", none), "_law_told_term", "_law_told_term", L2.defArgs (top 54), L2.defBody (top 54), L2.defScope (top 54), [], []⟩⟩
/-- _law_meaning -/
def m40 : MD := ⟨1, 3, [.asg (.nm 1) (.lc true (.bin .add (.bin .add (.lit (.str [110])) (.idx (.lit (.str [97, 98, 99, 100, 101, 102, 103, 104, 105, 106, 107, 108, 109, 110, 111, 112, 113, 114, 115, 116, 117, 118, 119, 120, 121, 122])) (.bin .fdiv (.var 2) (.lit (.int 26))))) (.idx (.lit (.str [97, 98, 99, 100, 101, 102, 103, 104, 105, 106, 107, 108, 109, 110, 111, 112, 113, 114, 115, 116, 117, 118, 119, 120, 121, 122])) (.bin .mod (.bi .int [.var 2]) (.lit (.int 26))))) (.nm 2) .range [.bin .mul (.lit (.int 26)) (.lit (.int 26))] [] [2]), .ret (.call 32 [.call 31 [.call 39 [.var 0, .var 1]]])]⟩
def q40 : DD := ⟨m40, ["code", "names", "k"], ⟨("_law_meaning", none), "_law_meaning", "_law_meaning", L2.defArgs (top 55), L2.defBody (top 55), L2.defScope (top 55), [], []⟩⟩
/-- _law_some_code -/
def m41 : MD := ⟨2, 6, [.asg (.nm 2) (.lc false (.idx (.lst false [.lit (.str [66]), .lit (.str [67]), .lit (.str [73]), .lit (.str [66])]) (.call 27 [.var 0, .lit (.int 4)])) (.nm 4) .range [.bin .add (.lit (.int 1)) (.call 27 [.var 0, .var 1])] [] [4]), .for_ (.nm 3) .range [.var 1] [.iff (.cmp .gt (.bi .len [.var 2]) (.lit (.int 1))) [.asg (.nm 5) (.call 27 [.var 0, .bin .sub (.bi .len [.var 2]) (.lit (.int 1))]), .iff (.cmp .eq (.call 27 [.var 0, .lit (.int 2)]) (.lit (.int 0))) [.asg (.nm 5) (.lit (.int 0))] [], .asg (.nm 2) (.bin .add (.bin .add (.slc (.var 2) false (.lit .non) true (.var 5)) (.lst false [.tup [.idx (.var 2) (.var 5), .idx (.var 2) (.bin .add (.var 5) (.lit (.int 1)))]])) (.slc (.var 2) true (.bin .add (.var 5) (.lit (.int 2))) false (.lit .non)))] []], .ret (.idx (.var 2) (.lit (.int 0)))]⟩
def q41 : DD := ⟨m41, ["feed", "most", "pieces", "step", "k", "at"], ⟨("_law_some_code", none), "_law_some_code", "_law_some_code", L2.defArgs (top 56), L2.defBody (top 56), L2.defScope (top 56), [], []⟩⟩
/-- _law_spine -/
def m42 : MD := ⟨1, 3, [.asg (.nm 1) (.lst false []), .for_ (.nm 2) .range [.lit (.int 400)] [.iff (.val (.isi .tuple (.var 0))) [.asg (.nm 1) (.bin .add (.lst false [.idx (.var 0) (.lit (.int 1))]) (.var 1)), .asg (.nm 0) (.idx (.var 0) (.lit (.int 0)))] []], .ret (.tup [.var 0, .var 1])]⟩
def q42 : DD := ⟨m42, ["code", "rest", "step"], ⟨("_law_spine", none), "_law_spine", "_law_spine", L2.defArgs (top 57), L2.defBody (top 57), L2.defScope (top 57), [], []⟩⟩
/-- _law_folded -/
def m43 : MD := ⟨2, 3, [.for_ (.nm 2) .val [.var 1] [.asg (.nm 0) (.tup [.var 0, .var 2])], .ret (.var 0)]⟩
def q43 : DD := ⟨m43, ["code", "rest", "own"], ⟨("_law_folded", none), "_law_folded", "_law_folded", L2.defArgs (top 58), L2.defBody (top 58), L2.defScope (top 58), [], []⟩⟩
/-- _law_stepped -/
def m44 : MD := ⟨1, 5, [.asg (.tp [.nm 1, .nm 2]) (.call 42 [.var 0]), .iff (.boolop true [.cmp .eq (.var 1) (.lit (.str [73])), .cmp .gt (.bi .len [.var 2]) (.lit (.int 0))]) [.ret (.call 43 [.idx (.var 2) (.lit (.int 0)), .slc (.var 2) true (.lit (.int 1)) false (.lit .non)])] [], .iff (.boolop true [.cmp .eq (.var 1) (.lit (.str [66])), .cmp .gt (.bi .len [.var 2]) (.lit (.int 2))]) [.ret (.call 43 [.tup [.idx (.var 2) (.lit (.int 0)), .tup [.idx (.var 2) (.lit (.int 1)), .idx (.var 2) (.lit (.int 2))]], .slc (.var 2) true (.lit (.int 3)) false (.lit .non)])] [], .iff (.boolop true [.cmp .eq (.var 1) (.lit (.str [67])), .cmp .gt (.bi .len [.var 2]) (.lit (.int 2))]) [.ret (.call 43 [.tup [.tup [.idx (.var 2) (.lit (.int 0)), .idx (.var 2) (.lit (.int 2))], .idx (.var 2) (.lit (.int 1))], .slc (.var 2) true (.lit (.int 3)) false (.lit .non)])] [], .for_ (.nm 3) .range [.bi .len [.var 2]] [.asg (.nm 4) (.call 44 [.idx (.var 2) (.var 3)]), .iff (.isn true (.var 4)) [.ret (.call 43 [.var 1, .bin .add (.bin .add (.slc (.var 2) false (.lit .non) true (.var 3)) (.lst false [.var 4])) (.slc (.var 2) true (.bin .add (.var 3) (.lit (.int 1))) false (.lit .non))])] []], .ret (.lit (.non))]⟩
def q44 : DD := ⟨m44, ["code", "joiner", "rest", "k", "after"], ⟨("_law_stepped", none), "_law_stepped", "_law_stepped", L2.defArgs (top 59), L2.defBody (top 59), L2.defScope (top 59), [], []⟩⟩
/-- _law_run -/
def m45 : MD := ⟨1, 4, [.asg (.nm 1) (.lst true [.var 0]), .for_ (.nm 2) .range [.lit (.int 200)] [.asg (.nm 3) (.call 44 [.idx (.var 1) (.neg (.lit (.int 1)))]), .iff (.isn true (.var 3)) [.ex (.bm .append (.var 1) [.var 3])] [.ret (.frz (.var 1))]], .ret (.lit (.non))]⟩
def q45 : DD := ⟨m45, ["code", "found", "step", "after"], ⟨("_law_run", none), "_law_run", "_law_run", L2.defArgs (top 60), L2.defBody (top 60), L2.defScope (top 60), [], []⟩⟩
/-- _law_told -/
def m46 : MD := ⟨1, 4, [.asg (.nm 1) (.bi .repr [.var 0]), .tryE [.asg (.nm 2) (.call 24 [.var 0])] 1 (some 3) [.iff (.boolop false [.not (.val (.xisi 3 0)), .val (.xisi 3 2), .cmp .ne (.bi .repr [.var 0]) (.var 1)]) [.ret (.tup [.lit (.str [101, 114, 114, 111, 114]), .lit (.int 0)])] [], .ret (.lit (.non))], .iff (.cmp .ne (.bi .repr [.var 0]) (.var 1)) [.ret (.tup [.lit (.str [101, 114, 114, 111, 114]), .lit (.int 1)])] [], .ret (.var 2)]⟩
def q46 : DD := ⟨m46, ["code", "before", "told", "e"], ⟨("_law_told", none), "_law_told", "_law_told", L2.defArgs (top 61), L2.defBody (top 61), L2.defScope (top 61), [], []⟩⟩
/-- _law_ran -/
def m47 : MD := ⟨2, 3, [.tryE [.ret (.call 25 [.var 0, .var 1])] 3 (some 2) [.iff (.boolop false [.not (.val (.xisi 2 0)), .val (.xisi 2 1)]) [.ret (.tup [.lit (.str [101, 114, 114, 111, 114]), .lit (.int 0)])] [], .ret (.tup [.lit (.str [109, 97, 110, 121]), .xfld 2 0])]]⟩
def q47 : DD := ⟨m47, ["code", "most", "e"], ⟨("_law_ran", none), "_law_ran", "_law_ran", L2.defArgs (top 62), L2.defBody (top 62), L2.defScope (top 62), [], []⟩⟩
/-- _law_right -/
def m48 : MD := ⟨2, 8, [.asg (.nm 2) (.call 45 [.var 1]), .for_ (.nm 3) .range [.bi .len [.var 2]] [.asg (.nm 7) (.lit (.non)), .iff (.cmp .lt (.bin .add (.var 3) (.lit (.int 1))) (.bi .len [.var 2])) [.asg (.nm 7) (.idx (.var 2) (.bin .add (.var 3) (.lit (.int 1))))] [], .asg (.nm 5) (.call 46 [.idx (.var 2) (.var 3)]), .iff (.boolop false [.cmp .ne (.var 5) (.var 7), .cmp .ne (.bi .repr [.var 5]) (.bi .repr [.var 7]), .cmp .ne (.bi .len [.call 38 [.idx (.var 2) (.var 3)]]) (.bin .sub (.bi .len [.call 38 [.var 1]]) (.var 3))]) [.ret (.lit (.bl false))] []], .asg (.nm 4) (.bin .sub (.bi .len [.var 2]) (.lit (.int 1))), .asg (.nm 5) (.call 47 [.var 1, .lit (.int 500)]), .iff (.boolop false [.not (.val (.isi .tuple (.var 5))), .cmp .ne (.var 5) (.tup [.idx (.var 2) (.neg (.lit (.int 1))), .var 4]), .cmp .ne (.bi .repr [.var 5]) (.bi .repr [.tup [.idx (.var 2) (.neg (.lit (.int 1))), .var 4]])]) [.ret (.lit (.bl false))] [], .iff (.boolop true [.cmp .gt (.var 4) (.lit (.int 0)), .boolop false [.cmp .ne (.call 47 [.var 1, .var 4]) (.tup [.idx (.var 2) (.neg (.lit (.int 1))), .var 4]), .cmp .ne (.call 47 [.idx (.var 2) (.lit (.int 0)), .bi .max [.lit (.int 1), .bin .sub (.var 4) (.lit (.int 1))]]) (.idx (.lst false [.tup [.lit (.str [109, 97, 110, 121]), .bin .sub (.var 4) (.lit (.int 1))], .tup [.idx (.var 2) (.neg (.lit (.int 1))), .lit (.int 1)]]) (.bi .int [.cmp .eq (.var 4) (.lit (.int 1))]))]]) [.ret (.lit (.bl false))] [], .asg (.nm 6) (.call 27 [.var 0, .bi .len [.var 2]]), .asg (.nm 7) (.call 40 [.var 1]), .ret (.boolop true [.cmp .eq (.call 19 [.idx (.var 2) (.var 6)]) (.var 7), .cmp .eq (.call 40 [.idx (.var 2) (.var 6)]) (.var 7), .cmp .eq (.call 19 [.idx (.var 2) (.neg (.lit (.int 1)))]) (.var 7)])]⟩
def q48 : DD := ⟨m48, ["feed", "code", "ways", "k", "steps", "told", "at", "due"], ⟨("_law_right", none), "_law_right", "_law_right", L2.defArgs (top 63), L2.defBody (top 63), L2.defScope (top 63), [], []⟩⟩
/-- law -/
def m49 : MD := ⟨1, 5, [.asg (.nm 1) (.call 26 [.var 0]), .for_ (.nm 2) .range [.lit (.int 4)] [.iff (.not (.val (.call 48 [.var 1, .call 41 [.var 1, .lit (.int 12)]]))) [.ret (.lit (.bl false))] [], .asg (.nm 3) (.call 28 [.var 1, .bin .add (.lit (.int 1)) (.call 27 [.var 1, .lit (.int 5)])]), .asg (.nm 4) (.call 15 [.var 3]), .iff (.boolop false [.cmp .ne (.var 4) (.call 35 [.var 3]), .not (.val (.call 48 [.var 1, .var 4]))]) [.ret (.lit (.bl false))] []], .iff (.boolop false [.cmp .ne (.call 46 [.tup [.tup [.lit (.str [73]), .lit (.str [66])], .lit (.str [67])]]) (.tup [.lit (.str [66]), .lit (.str [67])]), .isn true (.call 46 [.lit (.str [66])]), .cmp .ne (.call 46 [.tup [.lit (.str [66]), .tup [.lit (.str [73]), .lit (.str [67])]]]) (.tup [.lit (.str [66]), .lit (.str [67])])]) [.ret (.lit (.bl false))] [], .iff (.boolop false [.cmp .ne (.call 46 [.tup [.tup [.tup [.lit (.str [66]), .lit (.str [67])], .tup [.lit (.str [73]), .lit (.str [73])]], .tup [.lit (.str [73]), .lit (.str [66])]]]) (.tup [.lit (.str [67]), .tup [.tup [.lit (.str [73]), .lit (.str [73])], .tup [.lit (.str [73]), .lit (.str [66])]]]), .cmp .ne (.call 46 [.tup [.tup [.tup [.lit (.str [67]), .lit (.str [66])], .lit (.str [73])], .lit (.str [67])]]) (.tup [.tup [.lit (.str [66]), .lit (.str [67])], .lit (.str [73])])]) [.ret (.lit (.bl false))] [], .ret (.boolop true [.cmp .eq (.call 25 [.tup [.lit (.str [73]), .lit (.str [66])], .lit (.int 1)]) (.tup [.lit (.str [66]), .lit (.int 1)]), .cmp .eq (.call 47 [.tup [.tup [.lit (.str [73]), .lit (.str [73])], .tup [.lit (.str [73]), .lit (.str [66])]], .lit (.int 2)]) (.tup [.lit (.str [109, 97, 110, 121]), .lit (.int 2)]), .cmp .eq (.call 25 [.lit (.str [67]), .lit (.int 1)]) (.tup [.lit (.str [67]), .lit (.int 0)])])]⟩
def q49 : DD := ⟨m49, ["script", "feed", "turn", "term", "code"], ⟨("law", none), "law", "law", L2.defArgs (top 64), L2.defBody (top 64), L2.defScope (top 64), [], []⟩⟩
def txt : Txt := {
  defs := [q0, q1, q2, q3, q4, q5, q6, q7, q8, q9, q10, q11, q12, q13, q14, q15, q16, q17, q18, q19, q20, q21, q22, q23, q24, q25, q26, q27, q28, q29, q30, q31, q32, q33, q34, q35, q36, q37, q38, q39, q40, q41, q42, q43, q44, q45, q46, q47, q48, q49]
  consts := [("LETTERS_statements", .str [97, 98, 99, 100, 101, 102, 103, 104, 105, 106, 107, 108, 109, 110, 111, 112, 113, 114, 115, 116, 117, 118, 119, 120, 121, 122]), ("VAR", .str [118, 97, 114]), ("FUN", .str [102, 117, 110]), ("USE", .str [117, 115, 101]), ("LETTERS_codes", .str [97, 98, 99, 100, 101, 102, 103, 104, 105, 106, 107, 108, 109, 110, 111, 112, 113, 114, 115, 116, 117, 118, 119, 120, 121, 122])]
  fnames := ["limit"]
  errs := [⟨"OnceError", 0, [], none⟩,
    ⟨"NoStep", 0, [], none⟩,
    ⟨"NoFit", 0, [], none⟩,
    ⟨"TooMany", 1, [(0, 0)], some (["self", "limit"], ⟨("TooMany", some "__init__"), "__init__", "TooMany.__init__", L2.defArgs (inC 4 0), L2.defBody (inC 4 0), L2.defScope (inC 4 0), [], []⟩)⟩]
  subs := [[true, false, false, false], [true, true, false, false], [true, false, true, false], [true, false, false, true]]
  hots := []
  cls := []
  dtabs := [("NEEDS", [([66], .int 3), ([67], .int 3), ([73], .int 1)])]
  tabs := [] }
def shr : Nat → Bool := fun i => i == 26
-- loose: ["OnceError", "NoStep", "NoFit", "TooMany", "name_number", "named", "plain_names", "parts_at", "can_step", "places_of_steps", "steps_at", "put_for", "with_part", "step_at", "ways_to_end", "ended", "is_use", "stands_in", "code_of_fun", "code_of_term", "name_of", "joiner_term", "whole_term", "term_of_code", "unwound", "put_on", "joined", "step_or_none", "code_step", "run_code", "_law_feed", "_law_draw", "_law_term", "_law_put", "_law_reduced", "_law_last", "_law_plain", "_law_funs", "_law_called", "_law_code", "_law_over", "_law_within", "_law_joiners", "_law_told_term", "_law_meaning", "_law_some_code", "_law_spine", "_law_folded", "_law_stepped", "_law_run", "_law_told", "_law_ran", "_law_right", "law"]

theorem ok : txt.ok = true := by decide +kernel
end Z51
end

section
namespace Z51
open Z
abbrev RW := PySem.Challenge.rw_oncelinks_k51_whole_steps_of_codes
abbrev R : PySem.W.OpenRow := PySem.W.OpenLaw.row RW
abbrev hk : PySem.W.Hook := hookZ 6 txt.fa txt.fn txt.ck txt.dts
def ob (s : PySem.W.SharedT) : AlZ := obsZG 6 txt.fa txt.fn txt.ck txt.dts (HandSHeadRun.getT s)
theorem ob_eq (s : PySem.W.SharedT) : ob s = hk.obs s.abs := obsZG_eq (HandSHeadRun.getT_eq s)
def loose : List PySem.Str := [("OnceError" : PySem.Str), ("NoStep" : PySem.Str), ("NoFit" : PySem.Str), ("TooMany" : PySem.Str), ("LETTERS_statements" : PySem.Str), ("VAR" : PySem.Str), ("FUN" : PySem.Str), ("USE" : PySem.Str), ("name_number" : PySem.Str), ("named" : PySem.Str), ("plain_names" : PySem.Str), ("parts_at" : PySem.Str), ("can_step" : PySem.Str), ("places_of_steps" : PySem.Str), ("steps_at" : PySem.Str), ("put_for" : PySem.Str), ("with_part" : PySem.Str), ("step_at" : PySem.Str), ("ways_to_end" : PySem.Str), ("ended" : PySem.Str), ("NEEDS" : PySem.Str), ("LETTERS_codes" : PySem.Str), ("is_use" : PySem.Str), ("stands_in" : PySem.Str), ("code_of_fun" : PySem.Str), ("code_of_term" : PySem.Str), ("name_of" : PySem.Str), ("joiner_term" : PySem.Str), ("whole_term" : PySem.Str), ("term_of_code" : PySem.Str), ("unwound" : PySem.Str), ("put_on" : PySem.Str), ("joined" : PySem.Str), ("step_or_none" : PySem.Str), ("code_step" : PySem.Str), ("run_code" : PySem.Str), ("_law_feed" : PySem.Str), ("_law_draw" : PySem.Str), ("_law_term" : PySem.Str), ("_law_put" : PySem.Str), ("_law_reduced" : PySem.Str), ("_law_last" : PySem.Str), ("_law_plain" : PySem.Str), ("_law_funs" : PySem.Str), ("_law_called" : PySem.Str), ("_law_code" : PySem.Str), ("_law_over" : PySem.Str), ("_law_within" : PySem.Str), ("_law_joiners" : PySem.Str), ("_law_told_term" : PySem.Str), ("_law_meaning" : PySem.Str), ("_law_some_code" : PySem.Str), ("_law_spine" : PySem.Str), ("_law_folded" : PySem.Str), ("_law_stepped" : PySem.Str), ("_law_run" : PySem.Str), ("_law_told" : PySem.Str), ("_law_ran" : PySem.Str), ("_law_right" : PySem.Str)]
theorem run (w : PySem.World) : HandSHeadRun.RunEq R (PySem.W.view R.prog [64]) hk ob 4000 loose w := by
  refine PySem.W.byRow2 "special-get-raises" (P := fun w => HandSHeadRun.RunEq R (PySem.W.view R.prog [64]) hk ob 4000 loose w) (fun w os => ?_) (fun w os => ?_) w
  · kernel_rfl
  · kernel_rfl
end Z51
end

section
namespace Z51
open Z
abbrev Pr := txt.prog shr 1000
/-! ### codes -/
inductive Cd where
  | leaf (c : Nat)
  | node (a b : Cd)
def Cd.tree : Cd → PV
  | .leaf c => .str [c]
  | .node a b => .tup [a.tree, b.tree]
def Cd.text : Cd → Sg
  | .leaf c => [c]
  | .node a b => 40 :: (a.text ++ (b.text ++ [41]))
def Cd.dep : Cd → Nat
  | .leaf _ => 0
  | .node a b => 1 + max a.dep b.dep
def Cd.many : Cd → Nat
  | .leaf _ => 1
  | .node a b => a.many + b.many
def lf (c : Nat) : Prop := c = 66 ∨ c = 67 ∨ c = 73
instance (c : Nat) : Decidable (lf c) := by unfold lf; infer_instance
def Cd.good : Cd → Prop
  | .leaf c => lf c
  | .node a b => a.good ∧ b.good
theorem Cd.eqOk : ∀ c : Cd, Z.eqOk c.tree = true
  | .leaf c => rfl
  | .node a b => by simp [Cd.tree, Z.eqOk, Z.eqOks, a.eqOk, b.eqOk]
theorem Cd.depT : ∀ c : Cd, Z.dep c.tree = c.dep
  | .leaf c => rfl
  | .node a b => by simp [Cd.tree, Z.dep, Z.deps, Cd.dep, a.depT, b.depT]
theorem Cd.dep_many : ∀ c : Cd, c.dep < c.many
  | .leaf _ => by simp [Cd.dep, Cd.many]
  | .node a b => by
    have := a.dep_many
    have := b.dep_many
    simp only [Cd.dep, Cd.many]
    omega
theorem Cd.text_len : ∀ c : Cd, c.text.length + 2 = 3 * c.many
  | .leaf _ => rfl
  | .node a b => by
    have := a.text_len
    have := b.text_len
    simp only [Cd.text, Cd.many, List.length_cons, List.length_append, List.length_nil]
    omega
/-! ### what the program's defs do -/
section
variable {n : Nat} {st : Store}
@[simp] theorem use_leaf (c : Nat) : (Pr.sem (n + 1)).call 12 [.pv (.str [c])] st = some (.ok (.pv (.bl false)) st) := call1 (st1 := []) rfl rfl
@[simp] theorem use_node (a b : PV) : (Pr.sem (n + 1)).call 12 [.pv (.tup [a, b])] st = some (.ok (.pv (.bl true)) st) := call1 (st1 := []) rfl rfl
end
theorem hdraw : Pr.defs[27]? = some drawMD := rfl
theorem split_at {α : Type} {cs : List α} {k : Nat} (h : k + 1 < cs.length) : ∃ l a b r, cs = l ++ a :: b :: r ∧ l.length = k := by
  refine ⟨cs.take k, cs[k], cs[k + 1], cs.drop (k + 2), ?_, by rw [List.length_take]; omega⟩
  rw [← List.drop_eq_getElem_cons, ← List.drop_eq_getElem_cons, List.take_append_drop]
def total (cs : List Cd) : Nat := (cs.map Cd.many).sum
def allGood (cs : List Cd) : Prop := ∀ c ∈ cs, c.good
/-- two pieces become one -/
theorem join_two {cs : List Cd} {k : Nat} (h : k + 1 < cs.length) (hl : cs.length ≤ 100) : ∃ l a b r, cs = l ++ a :: b :: r ∧ cut (cs.map Cd.tree) none (some (k : Int)) = l.map Cd.tree ∧ cut (cs.map Cd.tree) (some ((k : Int) + 2)) none = r.map Cd.tree ∧
    atI (cs.map Cd.tree) (k : Int) = some a.tree ∧ atI (cs.map Cd.tree) ((k : Int) + 1) = some b.tree ∧ doBin .add (.lst (l.map Cd.tree)) (.lst [.tup [a.tree, b.tree]]) = some (.lst (l.map Cd.tree ++ [.tup [a.tree, b.tree]])) ∧
    doBin .add (.lst (l.map Cd.tree ++ [.tup [a.tree, b.tree]])) (.lst (r.map Cd.tree)) = some (.lst ((l ++ Cd.node a b :: r).map Cd.tree)) := by
  obtain ⟨l, a, b, r, e, hk⟩ := split_at h
  refine ⟨l, a, b, r, e, ?_⟩
  have hlen : (cs.map Cd.tree).length = l.length + (r.length + 2) := by rw [e]; simp
  have hlc : cs.length = l.length + (r.length + 2) := by rw [e]; simp
  have c1 : cut (cs.map Cd.tree) none (some (k : Int)) = l.map Cd.tree := by
    rw [cut_to _ (by rw [hlen]; omega), e, List.map_append, ← hk]
    simp
  have kk : (k : Int) + 2 = ((k + 2 : Nat) : Int) := by push_cast; rfl
  have k1 : (k : Int) + 1 = ((k + 1 : Nat) : Int) := by push_cast; rfl
  have c2 : cut (cs.map Cd.tree) (some ((k : Int) + 2)) none = r.map Cd.tree := by
    rw [kk, cut_from _ (by rw [hlen]; omega), e, ← hk]
    simp [List.drop_append]
  have i0 : atI (cs.map Cd.tree) (k : Int) = some a.tree := by
    rw [atI_nat (by rw [hlen]; omega), e, ← hk]
    simp
  have i1 : atI (cs.map Cd.tree) ((k : Int) + 1) = some b.tree := by
    rw [k1, atI_nat (by rw [hlen]; omega), e, ← hk]
    simp
  have hline : line = 16777216 := rfl
  have j1 : doBin .add (.lst (l.map Cd.tree)) (.lst [.tup [a.tree, b.tree]]) = some (.lst (l.map Cd.tree ++ [.tup [a.tree, b.tree]])) := cat_lst (by simp; omega)
  have j2 : doBin .add (.lst (l.map Cd.tree ++ [.tup [a.tree, b.tree]])) (.lst (r.map Cd.tree)) = some (.lst (l.map Cd.tree ++ [.tup [a.tree, b.tree]] ++ r.map Cd.tree)) := cat_lst (by simp; omega)
  refine ⟨c1, c2, i0, i1, j1, ?_⟩
  rw [j2]
  simp [Cd.tree]
/-- nothing but the feed has changed -/
def Lk (s0 st : Store) : Prop := HasF st ∧ st.length = s0.length ∧ ∀ r, r ≠ 0 → st[r]? = s0[r]?
theorem Lk.refl {st : Store} (h : HasF st) : Lk st st := ⟨h, rfl, fun _ _ => rfl⟩
theorem Lk.trans {a b c : Store} (h : Lk a b) (k : Lk b c) : Lk a c := ⟨k.1, k.2.1.trans h.2.1, fun r hr => (k.2.2 r hr).trans (h.2.2 r hr)⟩
theorem lk_draw {P : Prog} {f n : Nat} (hd : P.defs[f]? = some drawMD) {s0 st : Store} (h : Lk s0 st) {m : Int} (h1 : 0 < m) (h2 : m < 1073741824) : ∃ (k : Nat) (st' : Store), (P.sem (n + 1)).call f [.ref 0, .pv (.int m)] st = some (.ok (.pv (.int (k : Int))) st') ∧ (k : Int) < m ∧ Lk s0 st' := by
  obtain ⟨k, st', e, hk, hf, hl, hr⟩ := hasF_draw' (n := n) hd h.1 h1 h2
  exact ⟨k, st', e, hk, hf, hl.trans h.2.1, fun r q => (hr r q).trans (h.2.2 r q)⟩
theorem call_lk {P : Prog} {n f : Nat} {vs : List LV} {v : LV} {st st1 : Store} (e : P.cal n f (.ref 0 :: vs) st = some (.ok v st1)) (h : Lk st st1) : (P.sem n).call f (.ref 0 :: vs) st = some (.ok v st1) := call_len rfl e h.2.1
theorem some_code {n : Nat} {st : Store} {M : Nat} (h0 : 0 < M) (hM : M ≤ 100) (h : HasF st) : ∃ c st', (Pr.sem (n + 2)).call 41 [.ref 0, .pv (.int (M : Nat))] st = some (.ok (.pv (Cd.tree c)) st') ∧ Lk st st' ∧ c.good ∧ c.many ≤ M := by
  suffices H : ∃ c st', Pr.cal (n + 2) 41 [.ref 0, .pv (.int (M : Nat))] st = some (.ok (.pv (Cd.tree c)) st') ∧ Lk st st' ∧ c.good ∧ c.many ≤ M by
    obtain ⟨c, st', e, f, g⟩ := H
    exact ⟨c, st', call_lk e f, f, g⟩
  rw [cal_eq Pr (n + 1) 41 m41 _ _ rfl rfl]
  obtain ⟨s0, hs0⟩ : ∃ s0, s0 = st := ⟨st, rfl⟩
  have h : Lk s0 st := by rw [hs0]; exact Lk.refl h
  have dr := fun {st : Store} (h : Lk s0 st) {m : Int} (h1 : 0 < m) (h2 : m < 1073741824) => lk_draw (n := n) hdraw h h1 h2
  generalize Pr.sem (n + 1) = S at dr ⊢
  -- the leaves
  obtain ⟨k, st1, e1, hk, f1⟩ := dr h (m := (M : Nat)) (by omega) (by omega)
  have leaf : ∀ x ∈ (upto 0 (k + 1)).map PV.int, ∀ st, Lk s0 st → ∃ v st', lcStep S (.idx (.lst false [.lit (.str [66]), .lit (.str [67]), .lit (.str [73]), .lit (.str [66])]) (.call 27 [.var 0, .lit (.int 4)])) (.nm 4) [] [4] [some (.ref 0), some (.pv (.int (M : Nat))), none, none, none, none] x st = some (.ok [v] st') ∧ Lk s0 st' ∧ ∃ c, v = .pv (Cd.tree (.leaf c)) ∧ lf c := by
    intro x hx st hf
    obtain ⟨j, st2, e2, hj, f2⟩ := dr hf (m := 4) (by decide) (by decide)
    have hj' : j = 0 ∨ j = 1 ∨ j = 2 ∨ j = 3 := by omega
    rcases hj' with z | z | z | z <;> subst z
    · exact ⟨_, st2, by simp [lcStep, wipeL, e2]; rfl, f2, 66, rfl, by decide⟩
    · exact ⟨_, st2, by simp [lcStep, wipeL, e2]; rfl, f2, 67, rfl, by decide⟩
    · exact ⟨_, st2, by simp [lcStep, wipeL, e2]; rfl, f2, 73, rfl, by decide⟩
    · exact ⟨_, st2, by simp [lcStep, wipeL, e2]; rfl, f2, 66, rfl, by decide⟩
  obtain ⟨vs, st2, e2, f2, l2, q2⟩ := lcLoop_inv (Lk s0) (fun v => ∃ c, v = .pv (Cd.tree (.leaf c)) ∧ lf c) _ st1 f1 leaf
  have pieces : ∀ vs : List LV, (∀ v ∈ vs, ∃ c, v = .pv (Cd.tree (.leaf c)) ∧ lf c) → ∃ cs : List Cd, vs = (cs.map Cd.tree).map .pv ∧ allGood cs ∧ total cs = vs.length := by
    intro vs
    induction vs with
    | nil => exact fun _ => ⟨[], rfl, fun c hc => by simp at hc, rfl⟩
    | cons v vs ih =>
      intro hv
      obtain ⟨cs, h1, h2, h3⟩ := ih fun w hw => hv w (by simp [hw])
      obtain ⟨c, h4, h5⟩ := hv v (by simp)
      refine ⟨.leaf c :: cs, by rw [h4, h1]; rfl, fun d hd => ?_, by simp [total, Cd.many] at h3 ⊢; omega⟩
      rcases List.mem_cons.mp hd with z | z
      · rw [z]; exact h5
      · exact h2 d z
  obtain ⟨cs, hcs, gcs, tcs⟩ := pieces vs q2
  rw [List.length_map, upto_length] at l2
  have ncs : cs.length = k + 1 := by
    have := congrArg List.length hcs
    rw [List.length_map, List.length_map, l2] at this
    exact this.symm
  subst hcs
  have kk : (1 : Int) + (k : Int) = ((k + 1 : Nat) : Int) := by push_cast; omega
  have hline : line = 16777216 := rfl
  have lc := lcV_upto (live := false) (n := k + 1) (by omega) e2
  rw [mkLst_pv (by rw [List.length_map]; omega), ← kk] at lc
  -- the turns
  have turn : ∀ (x : PV) (cs : List Cd) (a3 a4 a5 : Option LV) (st : Store), Lk s0 st → cs ≠ [] → allGood cs → total cs ≤ M → cs.length ≤ M → ∃ cs' b3 b4 b5 st', forStep S (.nm 3) (match m41.body.getD 1 .pass with
      | .for_ _ _ _ b => b
      | _ => []) x [some (.ref 0), some (.pv (.int (M : Nat))), some (.pv (.lst (cs.map Cd.tree))), a3, a4, a5] st = some (.nx [some (.ref 0), some (.pv (.int (M : Nat))), some (.pv (.lst (cs'.map Cd.tree))), b3, b4, b5] st') ∧ Lk s0 st' ∧ cs' ≠ [] ∧ allGood cs' ∧ total cs' ≤ M ∧ cs'.length ≤ M := by
    intro x cs a3 a4 a5 st hf hne hg ht hlM
    by_cases h1 : 1 < cs.length
    · have h1' : (1 : Int) < cs.length := by omega
      obtain ⟨j, st3, e3, hj, f3⟩ := dr hf (m := (cs.length : Int) - 1) (by omega) (by omega)
      obtain ⟨b, st4, e4, hb, f4⟩ := dr f3 (m := 2) (by decide) (by decide)
      have hb' : b = 0 ∨ b = 1 := by omega
      have keep : ∀ {l : List Cd} {a b : Cd} {r : List Cd}, cs = l ++ a :: b :: r → l ++ Cd.node a b :: r ≠ [] ∧ allGood (l ++ Cd.node a b :: r) ∧ total (l ++ Cd.node a b :: r) ≤ M ∧ (l ++ Cd.node a b :: r).length ≤ M := by
        intro l a b r ecs
        refine ⟨by simp, fun c hc => ?_, ?_, ?_⟩
        · rcases List.mem_append.mp hc with z | z
          · exact hg c (by rw [ecs]; simp [z])
          · rcases List.mem_cons.mp z with z | z
            · subst z
              exact ⟨hg a (by rw [ecs]; simp), hg b (by rw [ecs]; simp)⟩
            · exact hg c (by rw [ecs]; simp [z])
        · rw [ecs] at ht
          simp [total, Cd.many] at ht ⊢
          omega
        · rw [ecs] at hlM
          simp at hlM ⊢
          omega
      rcases hb' with z | z <;> subst z
      · obtain ⟨l, a, b, r, ecs, c1, c2, i0, i1, j1, j2⟩ := join_two (k := 0) (cs := cs) (by omega) (by omega)
        refine ⟨l ++ .node a b :: r, some (.pv x), a4, some (.pv (.int 0)), st4, ?_, f4, keep ecs⟩
        simp at c1 c2 i0 i1 e4
        simp [m41, forStep, h1', e3, e4, optL, doSlc, c1, c2, i0, i1, j1, j2]
      · obtain ⟨l, a, b, r, ecs, c1, c2, i0, i1, j1, j2⟩ := join_two (k := j) (cs := cs) (by omega) (by omega)
        refine ⟨l ++ .node a b :: r, some (.pv x), a4, some (.pv (.int j)), st4, ?_, f4, keep ecs⟩
        simp at e4
        simp [m41, forStep, h1', e3, e4, optL, doSlc, c1, c2, i0, i1, j1, j2]
    · have h1' : ¬ (1 : Int) < cs.length := by omega
      refine ⟨cs, some (.pv x), a4, a5, st, ?_, hf, hne, hg, ht, hlM⟩
      simp [m41, forStep, h1']
  let I : Nat → Slots → Store → Prop := fun _ φ st => Lk s0 st ∧ ∃ cs a3 a4 a5, φ = [some (.ref 0), some (.pv (.int (M : Nat))), some (.pv (.lst (cs.map Cd.tree))), a3, a4, a5] ∧ cs ≠ [] ∧ allGood cs ∧ total cs ≤ M ∧ cs.length ≤ M
  have l0 : I 0 [some (.ref 0), some (.pv (.int (M : Nat))), some (.pv (.lst (cs.map Cd.tree))), none, none, none] st2 := ⟨f2, cs, none, none, none, rfl, by intro z; subst z; simp at ncs, gcs, by
    have : (List.map LV.pv (cs.map Cd.tree)).length = cs.length := by simp
    omega, by omega⟩
  obtain ⟨φ', st3, e3, f3, cs', a3, a4, a5, hφ, k1, k2, k3, k4⟩ := forLoop_inv I ((upto 0 M).map .int) 0 _ st2 l0 fun i x φ st _ hi => by
    obtain ⟨hf, cs, a3, a4, a5, hφ, q1, q2, q3, q4⟩ := hi
    obtain ⟨cs', b3, b4, b5, st', e, f', r1, r2, r3, r4⟩ := turn x cs a3 a4 a5 st hf q1 q2 q3 q4
    subst hφ
    exact ⟨_, st', e, f', cs', b3, b4, b5, rfl, r1, r2, r3, r4⟩
  subst hφ
  have fv := forV_upto (n := M) (by omega) (forStep S (.nm 3) (match m41.body.getD 1 .pass with
      | .for_ _ _ _ b => b
      | _ => [])) [some (.ref 0), some (.pv (.int (M : Nat))), some (.pv (.lst (cs.map Cd.tree))), none, none, none] st2
  rw [e3] at fv
  obtain ⟨c, cs1, hc1⟩ : ∃ c r, cs' = c :: r := List.exists_cons_of_ne_nil k1
  subst hc1
  refine ⟨c, st3, ?_, by rw [← hs0]; exact f3, k2 c (by simp), by simp [total] at k3; omega⟩
  simp [m41, e1, lc] at fv ⊢
  simp [fv]
theorem line_eq : line = 16777216 := rfl
theorem fed0 (ns : List Int) (n : Nat) : (Pr.sem (n + 1)).call 26 [.pv (.scr ns)] [] = some (.ok (.ref 0) [feedC ns 0 0 1]) := by kernel_rfl
theorem Fed0 (ns : List Int) : Fed [feedC ns 0 0 1] := ⟨⟨ns, 0, 0, 1, ⟨by decide, by decide, by decide, by decide⟩⟩, rfl⟩
/-! ### terms -/
abbrev sVar : Sg := [118, 97, 114]
abbrev sFun : Sg := [102, 117, 110]
abbrev sUse : Sg := [117, 115, 101]
inductive Tm where
  | var (x : Sg)
  | fn (x : Sg) (b : Tm)
  | use (a b : Tm)
def Tm.tree : Tm → PV
  | .var x => .tup [.str [118, 97, 114], .str x]
  | .fn x b => .tup [.str [102, 117, 110], .str x, b.tree]
  | .use a b => .tup [.str [117, 115, 101], a.tree, b.tree]
def Tm.text : Tm → Sg
  | .var x => x
  | .fn x b => 40 :: (x ++ (46 :: (b.text ++ [41])))
  | .use a b => 40 :: (a.text ++ (32 :: (b.text ++ [41])))
def Tm.size : Tm → Nat
  | .var _ => 1
  | .fn _ b => 1 + b.size
  | .use a b => 1 + a.size + b.size
def Tm.vars : Tm → Nat
  | .var _ => 1
  | .fn _ b => b.vars
  | .use a b => a.vars + b.vars
def Tm.names : Tm → List Sg
  | .var x => [x]
  | .fn _ b => b.names
  | .use a b => a.names ++ b.names
def Tm.dep : Tm → Nat
  | .var _ => 1
  | .fn _ b => 1 + b.dep
  | .use a b => 1 + max a.dep b.dep
/-- a name: one or two letters -/
def okN (x : Sg) : Prop := (x.length = 1 ∨ x.length = 2) ∧ ∀ c ∈ x, 97 ≤ c ∧ c ≤ 122
def Tm.good : Tm → Prop
  | .var x => okN x
  | .fn x b => okN x ∧ b.good
  | .use a b => a.good ∧ b.good
theorem Tm.dep_size : ∀ t : Tm, t.dep ≤ t.size
  | .var _ => Nat.le_refl _
  | .fn _ b => by
    have := b.dep_size
    simp only [Tm.dep, Tm.size]; omega
  | .use a b => by
    have := a.dep_size
    have := b.dep_size
    simp only [Tm.dep, Tm.size]; omega
theorem Tm.text_len : ∀ t : Tm, t.good → t.text.length ≤ 5 * t.size
  | .var _, g => by
    have : okN _ := g
    simp only [Tm.text, Tm.size]
    have := this.1
    omega
  | .fn x b, g => by
    have := b.text_len g.2
    have := g.1.1
    simp only [Tm.text, Tm.size, List.length_cons, List.length_append, List.length_nil]; omega
  | .use a b, g => by
    have := a.text_len g.1
    have := b.text_len g.2
    simp only [Tm.text, Tm.size, List.length_cons, List.length_append, List.length_nil]; omega
theorem Tm.eqOk : ∀ t : Tm, Z.eqOk t.tree = true
  | .var _ => rfl
  | .fn _ b => by simp [Tm.tree, Z.eqOk, Z.eqOks, b.eqOk]
  | .use a b => by simp [Tm.tree, Z.eqOk, Z.eqOks, a.eqOk, b.eqOk]
theorem Tm.depT : ∀ t : Tm, Z.dep t.tree = t.dep
  | .var _ => by simp [Tm.tree, Z.dep, Z.deps, Tm.dep]
  | .fn _ b => by simp [Tm.tree, Z.dep, Z.deps, Tm.dep, b.depT]
  | .use a b => by simp [Tm.tree, Z.dep, Z.deps, Tm.dep, a.depT, b.depT]
theorem Tm.names_len : ∀ t : Tm, t.names.length ≤ t.size
  | .var _ => Nat.le_refl _
  | .fn _ b => by
    have := b.names_len
    simp only [Tm.names, Tm.size]; omega
  | .use a b => by
    have := a.names_len
    have := b.names_len
    simp only [Tm.names, Tm.size, List.length_append]; omega
@[simp] theorem glbLET (n : Nat) : (Pr.sem n).glb 0 = some (.str [97, 98, 99, 100, 101, 102, 103, 104, 105, 106, 107, 108, 109, 110, 111, 112, 113, 114, 115, 116, 117, 118, 119, 120, 121, 122]) := rfl
@[simp] theorem glbVAR (n : Nat) : (Pr.sem n).glb 1 = some (.str [118, 97, 114]) := rfl
@[simp] theorem glbFUN (n : Nat) : (Pr.sem n).glb 2 = some (.str [102, 117, 110]) := rfl
@[simp] theorem glbUSE (n : Nat) : (Pr.sem n).glb 3 = some (.str [117, 115, 101]) := rfl
theorem slc1 (x : PV) (xs : List PV) : doSlc (.tup (x :: xs)) (some 1) none = some (.tup xs) := by rw [slc_tup, cut1]
theorem isTup (t : Tm) : isTy .tuple t.tree = some true := by cases t <;> rfl
theorem notTup (x : Sg) : isTy .tuple (.str x) = some false := rfl
/-! ### binders, other names, numbers for names -/
def Tm.funs : Tm → List Sg
  | .var _ => []
  | .fn x b => x :: b.funs
  | .use a b => a.funs ++ b.funs
theorem Tm.size_eq : ∀ t : Tm, t.size + 1 = 2 * t.vars + t.funs.length
  | .var _ => rfl
  | .fn _ b => by
    have := b.size_eq
    simp only [Tm.size, Tm.vars, Tm.funs, List.length_cons]; omega
  | .use a b => by
    have := a.size_eq
    have := b.size_eq
    simp only [Tm.size, Tm.vars, Tm.funs, List.length_append]; omega
def Tm.cl (ra : List Sg) : Tm → Prop
  | .var x => x ∈ ra
  | .fn x b => b.cl (x :: ra)
  | .use a b => a.cl ra ∧ b.cl ra
theorem Tm.cl_mono : ∀ (t : Tm) {ra rb : List Sg}, (∀ x ∈ ra, x ∈ rb) → t.cl ra → t.cl rb
  | .var x, _, _, h, c => h x c
  | .fn x b, _, _, h, c => b.cl_mono (fun y hy => by
      rcases List.mem_cons.mp hy with z | z
      · rw [z]; simp
      · simp [h y z]) c
  | .use a b, _, _, h, c => ⟨a.cl_mono h c.1, b.cl_mono h c.2⟩
def Tm.ren (g : Sg → Sg) : Tm → Tm
  | .var x => .var (g x)
  | .fn x b => .fn (g x) (b.ren g)
  | .use a b => .use (a.ren g) (b.ren g)
theorem mem_map_inj {g : Sg → Sg} {S : List Sg} (hg : ∀ x ∈ S, ∀ y ∈ S, g x = g y → x = y) {x : Sg} {l : List Sg} (hx : x ∈ S) (hl : ∀ y ∈ l, y ∈ S) : g x ∈ l.map g ↔ x ∈ l := by
  constructor
  · intro h
    obtain ⟨y, hy, e⟩ := List.mem_map.mp h
    rw [← hg y (hl y hy) x hx e]
    exact hy
  · exact List.mem_map_of_mem
theorem Tm.ren_size (g : Sg → Sg) : ∀ t : Tm, (t.ren g).size = t.size
  | .var _ => rfl
  | .fn _ b => by simp only [Tm.ren, Tm.size, b.ren_size g]
  | .use a b => by simp only [Tm.ren, Tm.size, a.ren_size g, b.ren_size g]
theorem Tm.ren_dep (g : Sg → Sg) : ∀ t : Tm, (t.ren g).dep = t.dep
  | .var _ => rfl
  | .fn _ b => by simp only [Tm.ren, Tm.dep, b.ren_dep g]
  | .use a b => by simp only [Tm.ren, Tm.dep, a.ren_dep g, b.ren_dep g]
/-! ### plain names -/
def pn (k : Nat) : Sg := if k < 26 then [97 + k] else [97 + (k / 26 - 1), 97 + k % 26]
theorem pn_inj {i j : Nat} (h : pn i = pn j) : i = j := by
  unfold pn at h
  split at h <;> split at h <;> simp at h <;> omega
def nmd (f : Sg → Sg) (k : Nat) : Tm → Tm × Nat
  | .var x => (.var (f x), k)
  | .fn x b => (.fn (pn k) (nmd (fun y => if y = x then pn k else f y) (k + 1) b).1, (nmd (fun y => if y = x then pn k else f y) (k + 1) b).2)
  | .use a b => (.use (nmd f k a).1 (nmd f (nmd f k a).2 b).1, (nmd f (nmd f k a).2 b).2)
theorem nmd_num : ∀ (t : Tm) (f : Sg → Sg) (k : Nat), (nmd f k t).2 = k + t.funs.length
  | .var x, f, k => rfl
  | .fn x b, f, k => by simp only [nmd, Tm.funs, List.length_cons, nmd_num b]; omega
  | .use a b, f, k => by simp only [nmd, Tm.funs, List.length_append, nmd_num b, nmd_num a]; omega
theorem nmd_dep : ∀ (t : Tm) (f : Sg → Sg) (k : Nat), (nmd f k t).1.dep = t.dep
  | .var x, f, k => rfl
  | .fn x b, f, k => by simp only [nmd, Tm.dep, nmd_dep b]
  | .use a b, f, k => by simp only [nmd, Tm.dep, nmd_dep a, nmd_dep b]
theorem nmd_size : ∀ (t : Tm) (f : Sg → Sg) (k : Nat), (nmd f k t).1.size = t.size
  | .var x, f, k => rfl
  | .fn x b, f, k => by simp only [nmd, Tm.size, nmd_size b]
  | .use a b, f, k => by simp only [nmd, Tm.size, nmd_size a, nmd_size b]
theorem nmd_funs : ∀ (t : Tm) (f : Sg → Sg) (k : Nat), (nmd f k t).1.funs.length = t.funs.length
  | .var x, f, k => rfl
  | .fn x b, f, k => by simp only [nmd, Tm.funs, List.length_cons, nmd_funs b]
  | .use a b, f, k => by simp only [nmd, Tm.funs, List.length_append, nmd_funs a, nmd_funs b]
def plain (t : Tm) : Tm := (nmd id 0 t).1
/-- binders met once: plain names are a renaming -/
theorem nmd_ren {g : Sg → Sg} : ∀ (t : Tm) (f : Sg → Sg) (k : Nat) (ra : List Sg), t.cl ra → (∀ x ∈ ra, f x = g x) → (∀ i x, t.funs[i]? = some x → g x = pn (k + i)) → (nmd f k t).1 = t.ren g
  | .var x, f, k, ra, hc, hf, hg => by
    have : f x = g x := hf x hc
    simp only [nmd, Tm.ren, this]
  | .fn x b, f, k, ra, hc, hf, hg => by
    have h0 : g x = pn k := hg 0 x rfl
    have ih := nmd_ren (g := g) b (fun y => if y = x then pn k else f y) (k + 1) (x :: ra) hc (fun y hy => by
      by_cases e : y = x
      · subst e; simp [h0]
      · rcases List.mem_cons.mp hy with z | z
        · exact absurd z e
        · simp only [if_neg e]; exact hf y z) (fun i y hy => by
      have := hg (i + 1) y (by simpa [Tm.funs] using hy)
      rw [this]
      congr 1
      omega)
    simp only [nmd, Tm.ren, ih, h0]
  | .use a b, f, k, ra, hc, hf, hg => by
    have i1 := nmd_ren (g := g) a f k ra hc.1 hf (fun i y hy => hg i y (by
      have := (List.getElem?_eq_some_iff.mp hy).1
      rw [Tm.funs, List.getElem?_append_left this]; exact hy))
    have i2 := nmd_ren (g := g) b f (nmd f k a).2 ra hc.2 hf (fun i y hy => by
      have := hg (a.funs.length + i) y (by
        rw [Tm.funs, List.getElem?_append_right (by omega), Nat.add_sub_cancel_left]; exact hy)
      rw [this, nmd_num a, Nat.add_assoc])
    simp only [nmd, Tm.ren, i1, i2]
theorem idx_ne {x y : Sg} (l : List Sg) (h : ¬ x = y) : (x :: l).idxOf y = l.idxOf y + 1 := by
  rw [List.idxOf_cons]
  have : (x == y) = false := by simpa using h
  rw [this]; rfl
/-! ### terms without names -/
inductive Db where
  | v (i : Nat)
  | l (b : Db)
  | a (f g : Db)
def db (ra : List Sg) : Tm → Db
  | .var x => .v (ra.idxOf x)
  | .fn x b => .l (db (x :: ra) b)
  | .use a b => .a (db ra a) (db ra b)
def pl (rb : List Sg) (k : Nat) : Db → Tm × Nat
  | .v i => (.var (rb.getD i []), k)
  | .l b => (.fn (pn k) (pl (pn k :: rb) (k + 1) b).1, (pl (pn k :: rb) (k + 1) b).2)
  | .a f g => (.use (pl rb k f).1 (pl rb (pl rb k f).2 g).1, (pl rb (pl rb k f).2 g).2)
theorem nmd_pl : ∀ (t : Tm) (f : Sg → Sg) (k : Nat) (ra rb : List Sg), t.cl ra → (∀ x ∈ ra, rb[ra.idxOf x]? = some (f x)) → nmd f k t = pl rb k (db ra t)
  | .var x, f, k, ra, rb, hc, hf => by
    have : rb[ra.idxOf x]? = some (f x) := hf x hc
    simp only [nmd, db, pl, List.getD_eq_getElem?_getD, this, Option.getD_some]
  | .fn x b, f, k, ra, rb, hc, hf => by
    have ih := nmd_pl b (fun y => if y = x then pn k else f y) (k + 1) (x :: ra) (pn k :: rb) hc (fun y hy => by
      by_cases e : y = x
      · subst e; simp
      · rcases List.mem_cons.mp hy with z | z
        · exact absurd z e
        · have e' : ¬ x = y := fun q => e q.symm
          rw [idx_ne ra e', if_neg e, List.getElem?_cons_succ]
          exact hf y z)
    simp only [nmd, db, pl, ih]
  | .use a b, f, k, ra, rb, hc, hf => by
    have i1 := nmd_pl a f k ra rb hc.1 hf
    have i2 := nmd_pl b f (nmd f k a).2 ra rb hc.2 hf
    rw [i1] at i2
    simp only [nmd, db, pl, i1, i2]
def Db.sc (n : Nat) : Db → Prop
  | .v i => i < n
  | .l b => b.sc (n + 1)
  | .a f g => f.sc n ∧ g.sc n
def Db.lams : Db → Nat
  | .v _ => 0
  | .l b => 1 + b.lams
  | .a f g => f.lams + g.lams
theorem pl_num : ∀ (d : Db) (rb : List Sg) (k : Nat), (pl rb k d).2 = k + d.lams
  | .v i, rb, k => rfl
  | .l b, rb, k => by simp only [pl, Db.lams, pl_num b]; omega
  | .a f g, rb, k => by simp only [pl, Db.lams, pl_num f, pl_num g]; omega
theorem db_pl : ∀ (d : Db) (rb : List Sg) (k : Nat), d.sc rb.length → rb.Nodup → (∀ y ∈ rb, ∃ i, i < k ∧ y = pn i) → db rb (pl rb k d).1 = d
  | .v i, rb, k, hs, hn, hb => by
    have hi : i < rb.length := hs
    simp only [pl, db, List.getD_eq_getElem?_getD, List.getElem?_eq_getElem hi, Option.getD_some]
    congr 1
    exact hn.idxOf_getElem i hi
  | .l b, rb, k, hs, hn, hb => by
    have ih := db_pl b (pn k :: rb) (k + 1) hs (List.nodup_cons.mpr ⟨fun z => by
      obtain ⟨i, hi, e⟩ := hb _ z
      have := pn_inj e
      omega, hn⟩) (fun y hy => by
      rcases List.mem_cons.mp hy with z | z
      · exact ⟨k, by omega, z⟩
      · obtain ⟨i, hi, e⟩ := hb y z
        exact ⟨i, by omega, e⟩)
    simp only [pl, db, ih]
  | .a f g, rb, k, hs, hn, hb => by
    have i1 := db_pl f rb k hs.1 hn hb
    have i2 := db_pl g rb (pl rb k f).2 hs.2 hn (fun y hy => by
      obtain ⟨i, hi, e⟩ := hb y hy
      exact ⟨i, by rw [pl_num]; omega, e⟩)
    simp only [pl, db, i1, i2]
theorem db_sc : ∀ (t : Tm) (ra : List Sg), t.cl ra → (db ra t).sc ra.length
  | .var x, ra, hc => List.idxOf_lt_length_iff.mpr hc
  | .fn x b, ra, hc => db_sc b (x :: ra) hc
  | .use a b, ra, hc => ⟨db_sc a ra hc.1, db_sc b ra hc.2⟩
theorem plain_db (t : Tm) (h : t.cl []) : plain t = (pl [] 0 (db [] t)).1 := by
  unfold plain
  rw [nmd_pl t id 0 [] [] h (fun x hx => by simp at hx)]
theorem db_plain (t : Tm) (h : t.cl []) : db [] (plain t) = db [] t := by
  rw [plain_db t h]
  exact db_pl _ [] 0 (db_sc t [] h) List.nodup_nil (fun y hy => by simp at hy)
theorem db_ren {g : Sg → Sg} {S : List Sg} (hg : ∀ x ∈ S, ∀ y ∈ S, g x = g y → x = y) : ∀ (t : Tm) (ra : List Sg), t.cl ra → (∀ y ∈ ra, y ∈ S) → (∀ y ∈ t.funs, y ∈ S) → db (ra.map g) (t.ren g) = db ra t
  | .var x, ra, hc, ha, ht => by
    simp only [Tm.ren, db]
    congr 1
    have hx : x ∈ ra := hc
    induction ra with
    | nil => simp at hx
    | cons y ra ih =>
      by_cases e : y = x
      · subst e; simp
      · have e2 : ¬ g y = g x := fun q => e (hg y (ha y (by simp)) x (ha x hx) q)
        have hx' : x ∈ ra := by
          rcases List.mem_cons.mp hx with z | z
          · exact absurd z.symm e
          · exact z
        rw [List.map_cons, idx_ne _ e2, idx_ne _ e, ih hx' (fun z hz => ha z (by simp [hz])) hx']
  | .fn x b, ra, hc, ha, ht => by
    have hx : x ∈ S := ht x (by simp [Tm.funs])
    have ih := db_ren hg b (x :: ra) hc (fun y hy => by
      rcases List.mem_cons.mp hy with z | z
      · rw [z]; exact hx
      · exact ha y z) (fun y hy => ht y (by simp [Tm.funs, hy]))
    simp only [Tm.ren, db, List.map_cons] at ih ⊢
    rw [ih]
  | .use a b, ra, hc, ha, ht => by
    have i1 := db_ren hg a ra hc.1 ha (fun y hy => ht y (by simp [Tm.funs, hy]))
    have i2 := db_ren hg b ra hc.2 ha (fun y hy => ht y (by simp [Tm.funs, hy]))
    simp only [Tm.ren, db, i1, i2]
theorem cl_ren {g : Sg → Sg} : ∀ (t : Tm) (ra : List Sg), t.cl ra → (t.ren g).cl (ra.map g)
  | .var x, ra, hc => List.mem_map_of_mem hc
  | .fn x b, ra, hc => cl_ren b (x :: ra) hc
  | .use a b, ra, hc => ⟨cl_ren a ra hc.1, cl_ren b ra hc.2⟩
end Z51
end

section
namespace Z51
open Z
/-! ### terms without names: steps, and that all ways meet -/
def up (ξ : Nat → Nat) : Nat → Nat
  | 0 => 0
  | i + 1 => ξ i + 1
def rn (ξ : Nat → Nat) : Db → Db
  | .v i => .v (ξ i)
  | .l b => .l (rn (up ξ) b)
  | .a f g => .a (rn ξ f) (rn ξ g)
def ups (σ : Nat → Db) : Nat → Db
  | 0 => .v 0
  | i + 1 => rn Nat.succ (σ i)
def sb (σ : Nat → Db) : Db → Db
  | .v i => σ i
  | .l b => .l (sb (ups σ) b)
  | .a f g => .a (sb σ f) (sb σ g)
def sc1 (u : Db) : Nat → Db
  | 0 => u
  | i + 1 => .v i
def inst (b u : Db) : Db := sb (sc1 u) b
theorem up_comp (ξ ζ : Nat → Nat) : (fun i => up ξ (up ζ i)) = up fun i => ξ (ζ i) := by
  funext i; cases i <;> rfl
theorem rn_rn : ∀ (t : Db) (ξ ζ : Nat → Nat), rn ξ (rn ζ t) = rn (fun i => ξ (ζ i)) t
  | .v _, _, _ => rfl
  | .l b, ξ, ζ => by simp only [rn, rn_rn b, up_comp]
  | .a f g, ξ, ζ => by simp only [rn, rn_rn f, rn_rn g]
theorem ups_up (σ : Nat → Db) (ξ : Nat → Nat) : (fun i => ups σ (up ξ i)) = ups fun i => σ (ξ i) := by
  funext i; cases i <;> rfl
theorem sb_rn : ∀ (t : Db) (σ : Nat → Db) (ξ : Nat → Nat), sb σ (rn ξ t) = sb (fun i => σ (ξ i)) t
  | .v _, _, _ => rfl
  | .l b, σ, ξ => by simp only [rn, sb, sb_rn b, ups_up]
  | .a f g, σ, ξ => by simp only [rn, sb, sb_rn f, sb_rn g]
theorem rn_ups (σ : Nat → Db) (ξ : Nat → Nat) : (fun i => rn (up ξ) (ups σ i)) = ups fun i => rn ξ (σ i) := by
  funext i
  cases i with
  | zero => rfl
  | succ i =>
    show rn (up ξ) (rn Nat.succ (σ i)) = rn Nat.succ (rn ξ (σ i))
    rw [rn_rn, rn_rn]
    rfl
theorem rn_sb : ∀ (t : Db) (σ : Nat → Db) (ξ : Nat → Nat), rn ξ (sb σ t) = sb (fun i => rn ξ (σ i)) t
  | .v _, _, _ => rfl
  | .l b, σ, ξ => by simp only [rn, sb, rn_sb b, rn_ups]
  | .a f g, σ, ξ => by simp only [rn, sb, rn_sb f, rn_sb g]
theorem sb_ups (σ τ : Nat → Db) : (fun i => sb (ups τ) (ups σ i)) = ups fun i => sb τ (σ i) := by
  funext i
  cases i with
  | zero => rfl
  | succ i =>
    show sb (ups τ) (rn Nat.succ (σ i)) = rn Nat.succ (sb τ (σ i))
    rw [sb_rn, rn_sb]
    rfl
theorem sb_sb : ∀ (t : Db) (σ τ : Nat → Db), sb τ (sb σ t) = sb (fun i => sb τ (σ i)) t
  | .v _, _, _ => rfl
  | .l b, σ, τ => by simp only [sb, sb_sb b, sb_ups]
  | .a f g, σ, τ => by simp only [sb, sb_sb f, sb_sb g]
theorem ups_v : ups Db.v = Db.v := by funext i; cases i <;> rfl
theorem sb_v : ∀ t : Db, sb Db.v t = t
  | .v _ => rfl
  | .l b => by simp only [sb, ups_v, sb_v b]
  | .a f g => by simp only [sb, sb_v f, sb_v g]
theorem inst_sb (b u : Db) (σ : Nat → Db) : sb σ (inst b u) = inst (sb (ups σ) b) (sb σ u) := by
  unfold inst
  rw [sb_sb, sb_sb]
  congr 1
  funext i
  cases i with
  | zero => rfl
  | succ i =>
    show σ i = sb (sc1 (sb σ u)) (rn Nat.succ (σ i))
    rw [sb_rn]
    exact (sb_v _).symm
theorem inst_rn (b u : Db) (ξ : Nat → Nat) : rn ξ (inst b u) = inst (rn (up ξ) b) (rn ξ u) := by
  unfold inst
  rw [rn_sb, sb_rn]
  congr 1
  funext i
  cases i <;> rfl
/-- steps side by side -/
inductive Par : Db → Db → Prop
  | v (i : Nat) : Par (.v i) (.v i)
  | l {b b' : Db} : Par b b' → Par (.l b) (.l b')
  | a {f f' g g' : Db} : Par f f' → Par g g' → Par (.a f g) (.a f' g')
  | beta {b b' u u' : Db} : Par b b' → Par u u' → Par (.a (.l b) u) (inst b' u')
theorem Par.refl : ∀ t : Db, Par t t
  | .v i => .v i
  | .l b => .l (Par.refl b)
  | .a f g => .a (Par.refl f) (Par.refl g)
theorem Par.rn {t t' : Db} (h : Par t t') : ∀ ξ : Nat → Nat, Par (rn ξ t) (rn ξ t') := by
  induction h with
  | v i => exact fun ξ => .v _
  | l h ih => exact fun ξ => .l (ih _)
  | a h h' ih ih' => exact fun ξ => .a (ih _) (ih' _)
  | beta h h' ih ih' =>
    intro ξ
    rw [inst_rn]
    exact .beta (ih _) (ih' _)
theorem Par.ups {σ τ : Nat → Db} (h : ∀ i, Par (σ i) (τ i)) : ∀ i, Par (ups σ i) (ups τ i)
  | 0 => .v 0
  | i + 1 => (h i).rn _
theorem Par.sb {t t' : Db} (h : Par t t') : ∀ {σ τ : Nat → Db}, (∀ i, Par (σ i) (τ i)) → Par (sb σ t) (sb τ t') := by
  induction h with
  | v i => exact fun h => h i
  | l h ih => exact fun h => .l (ih (Par.ups h))
  | a h h' ih ih' => exact fun h => .a (ih h) (ih' h)
  | beta h h' ih ih' =>
    intro σ τ hs
    rw [inst_sb]
    exact .beta (ih (Par.ups hs)) (ih' hs)
theorem Par.inst {b b' u u' : Db} (h : Par b b') (h' : Par u u') : Par (inst b u) (inst b' u') := h.sb fun i => by
  cases i with
  | zero => exact h'
  | succ i => exact .v i
/-- all steps at once -/
def cd : Db → Db
  | .v i => .v i
  | .l b => .l (cd b)
  | .a (.l b) g => inst (cd b) (cd g)
  | .a (.v i) g => .a (.v i) (cd g)
  | .a (.a f h) g => .a (cd (.a f h)) (cd g)
theorem Par.cd {t t' : Db} (h : Par t t') : Par t' (cd t) := by
  induction h with
  | v i => exact .v i
  | l h ih => exact .l ih
  | @a f f' g g' h h' ih ih' =>
    cases f with
    | v i => exact .a ih ih'
    | a f1 f2 => exact .a ih ih'
    | l b =>
      cases h with
      | l hb =>
        have i1 : Par _ (Db.l (Z51.cd b)) := ih
        cases i1 with
        | l i2 => exact .beta i2 ih'
  | beta h h' ih ih' => exact Par.inst ih ih'
inductive Ps : Db → Db → Prop
  | refl (t : Db) : Ps t t
  | step {t u w : Db} : Par t u → Ps u w → Ps t w
theorem Ps.one {t u : Db} (h : Par t u) : Ps t u := .step h (.refl u)
theorem Ps.trans {t u w : Db} (h : Ps t u) (h' : Ps u w) : Ps t w := by
  induction h with
  | refl => exact h'
  | step a _ ih => exact .step a (ih h')
theorem Ps.strip {t u : Db} (h : Ps t u) : ∀ {w : Db}, Par t w → ∃ x, Par u x ∧ Ps w x := by
  induction h with
  | refl t => exact fun h => ⟨_, h, .refl _⟩
  | step a _ ih =>
    intro w h
    obtain ⟨x, h1, h2⟩ := ih a.cd
    exact ⟨x, h1, .step h.cd h2⟩
theorem Ps.meet {t u : Db} (h : Ps t u) : ∀ {w : Db}, Ps t w → ∃ x, Ps u x ∧ Ps w x := by
  induction h with
  | refl t => exact fun h => ⟨_, h, .refl _⟩
  | step a _ ih =>
    intro w h
    obtain ⟨x, h1, h2⟩ := h.strip a
    obtain ⟨y, h3, h4⟩ := ih h2
    exact ⟨y, h3, .step h1 h4⟩
theorem Ps.l {b b' : Db} (h : Ps b b') : Ps (.l b) (.l b') := by
  induction h with
  | refl => exact .refl _
  | step a _ ih => exact .step (.l a) ih
theorem Ps.a {f f' g g' : Db} (h : Ps f f') (h' : Ps g g') : Ps (.a f g) (.a f' g') := by
  refine Ps.trans (u := .a f' g) ?_ ?_
  · induction h with
    | refl => exact .refl _
    | step a _ ih => exact .step (.a a (Par.refl _)) ih
  · induction h' with
    | refl => exact .refl _
    | step a _ ih => exact .step (.a (Par.refl _) a) ih
theorem Ps.rn {t t' : Db} (h : Ps t t') (ξ : Nat → Nat) : Ps (rn ξ t) (rn ξ t') := by
  induction h with
  | refl => exact .refl _
  | step a _ ih => exact .step (a.rn ξ) ih
/-- nothing to do -/
def nrm : Db → Prop
  | .v _ => True
  | .l b => nrm b
  | .a (.l _) _ => False
  | .a (.v _) g => nrm g
  | .a (.a f h) g => nrm (.a f h) ∧ nrm g
theorem nrm_par {t t' : Db} (h : Par t t') : nrm t → t' = t := by
  induction h with
  | v i => exact fun _ => rfl
  | l h ih => exact fun n => by rw [ih n]
  | @a f f' g g' h h' ih ih' =>
    intro n
    cases f with
    | l b => exact n.elim
    | v i => rw [ih trivial, ih' n]
    | a f1 f2 => rw [ih n.1, ih' n.2]
  | beta h h' ih ih' => exact fun n => n.elim
theorem nrm_ps {t t' : Db} (h : Ps t t') (n : nrm t) : t' = t := by
  induction h with
  | refl => rfl
  | step a _ ih =>
    have e := nrm_par a n
    subst e
    exact ih n
/-- the end is one -/
theorem nrm_one {t u w : Db} (h : Ps t u) (h' : Ps t w) (n : nrm u) (n' : nrm w) : u = w := by
  obtain ⟨x, h1, h2⟩ := h.meet h'
  rw [← nrm_ps h1 n, nrm_ps h2 n']
/-- .. of what is steps away, too -/
theorem nrm_two {t t' u w : Db} (h : Ps t t') (h1 : Ps t u) (h2 : Ps t' w) (n : nrm u) (n' : nrm w) : u = w := nrm_one h1 (h.trans h2) n n'
/-! ### linear terms with names: a step is one of their nameless terms -/
def put (x : Sg) (c : Tm) : Tm → Tm
  | .var y => if y = x then c else .var y
  | .fn y b => .fn y (put x c b)
  | .use a b => .use (put x c a) (put x c b)
theorem names_mem : ∀ (t : Tm) (ra : List Sg), t.cl ra → ∀ y ∈ t.names, y ∈ ra ∨ y ∈ t.funs
  | .var x, ra, h, y, hy => by
    simp only [Tm.names, List.mem_singleton] at hy
    subst hy
    exact .inl h
  | .fn x b, ra, h, y, hy => by
    rcases names_mem b (x :: ra) h y hy with z | z
    · rcases List.mem_cons.mp z with w | w
      · exact .inr (by simp [Tm.funs, w])
      · exact .inl w
    · exact .inr (by simp [Tm.funs, z])
  | .use a b, ra, h, y, hy => by
    simp only [Tm.names, List.mem_append] at hy
    rcases hy with z | z
    · exact (names_mem a ra h.1 y z).imp id fun w => by simp [Tm.funs, w]
    · exact (names_mem b ra h.2 y z).imp id fun w => by simp [Tm.funs, w]
theorem put_cl (x : Sg) : ∀ (b c : Tm) (rb ra : List Sg), b.cl rb → (∀ y ∈ rb, y = x ∨ y ∈ ra) → c.cl ra → (put x c b).cl ra
  | .var y, c, rb, ra, hb, h, hc => by
    simp only [put]
    by_cases e : y = x
    · rw [if_pos e]; exact hc
    · rw [if_neg e]
      rcases h y hb with z | z
      · exact absurd z e
      · exact z
  | .fn z b, c, rb, ra, hb, h, hc => put_cl x b c (z :: rb) (z :: ra) hb (fun y hy => by
      rcases List.mem_cons.mp hy with w | w
      · exact .inr (by simp [w])
      · exact (h y w).imp id fun v => by simp [v]) (c.cl_mono (fun y hy => by simp [hy]) hc)
  | .use a b, c, rb, ra, hb, h, hc => ⟨put_cl x a c rb ra hb.1 h hc, put_cl x b c rb ra hb.2 h hc⟩
def cn (y : Sg) (l : List Sg) : Nat := l.count y
theorem cn_nil (y : Sg) : cn y [] = 0 := rfl
theorem cn_app (y : Sg) (a b : List Sg) : cn y (a ++ b) = cn y a + cn y b := List.count_append
theorem cn_cons (y x : Sg) (l : List Sg) : cn y (x :: l) = cn y l + if x = y then 1 else 0 := by
  unfold cn
  rw [List.count_cons]
  by_cases h : x = y <;> simp [h]
theorem cn_pos {y : Sg} {l : List Sg} : 0 < cn y l ↔ y ∈ l := List.count_pos_iff
theorem cn_zero {y : Sg} {l : List Sg} : cn y l = 0 ↔ y ∉ l := List.count_eq_zero
theorem put_funs_c (x y : Sg) (c : Tm) : ∀ b : Tm, cn y (put x c b).funs = cn y b.funs + cn x b.names * cn y c.funs
  | .var z => by
    simp only [put, Tm.names, Tm.funs, cn_nil, cn_cons]
    by_cases e : z = x <;> simp [e, Tm.funs, cn_nil]
  | .fn z b => by
    have := put_funs_c x y c b
    simp only [put, Tm.names, Tm.funs, cn_cons, this]
    omega
  | .use a b => by
    have h1 := put_funs_c x y c a
    have h2 := put_funs_c x y c b
    simp only [put, Tm.names, Tm.funs, cn_app, h1, h2, Nat.add_mul]
    omega
theorem put_names_c (x y : Sg) (c : Tm) : ∀ b : Tm, cn y (put x c b).names = (if y = x then 0 else cn y b.names) + cn x b.names * cn y c.names
  | .var z => by
    simp only [put, Tm.names, cn_nil, cn_cons]
    by_cases e : z = x
    · subst e
      by_cases h : y = z
      · simp [h]
      · have : ¬ z = y := fun q => h q.symm
        simp [this]
    · simp only [if_neg e, Tm.names, cn_cons, cn_nil]
      by_cases h : y = x
      · subst h; simp [e]
      · simp [h]
  | .fn z b => put_names_c x y c b
  | .use a b => by
    have h1 := put_names_c x y c a
    have h2 := put_names_c x y c b
    simp only [put, Tm.names, cn_app, h1, h2, Nat.add_mul]
    split <;> omega
theorem put_size_c (x : Sg) (c : Tm) : ∀ b : Tm, (put x c b).size + cn x b.names = b.size + cn x b.names * c.size
  | .var z => by
    simp only [put, Tm.names, cn_nil, cn_cons]
    by_cases e : z = x <;> simp [e, Tm.size] <;> omega
  | .fn z b => by
    have := put_size_c x c b
    simp only [put, Tm.names, Tm.size]
    omega
  | .use a b => by
    have h1 := put_size_c x c a
    have h2 := put_size_c x c b
    simp only [put, Tm.names, Tm.size, cn_app, Nat.add_mul]
    omega
theorem put_flen_c (x : Sg) (c : Tm) : ∀ b : Tm, (put x c b).funs.length = b.funs.length + cn x b.names * c.funs.length
  | .var z => by
    simp only [put, Tm.names, Tm.funs, cn_nil, cn_cons]
    by_cases e : z = x <;> simp [e, Tm.funs]
  | .fn z b => by
    have := put_flen_c x c b
    simp only [put, Tm.names, Tm.funs, List.length_cons, this]
    omega
  | .use a b => by
    have h1 := put_flen_c x c a
    have h2 := put_flen_c x c b
    simp only [put, Tm.names, Tm.funs, List.length_append, cn_app, h1, h2, Nat.add_mul]
    omega
theorem put_dep_c (x : Sg) (c : Tm) : ∀ b : Tm, (put x c b).dep ≤ b.dep + c.dep
  | .var z => by
    simp only [put]
    by_cases e : z = x <;> simp [e, Tm.dep]
  | .fn z b => by
    have := put_dep_c x c b
    simp only [put, Tm.dep]
    omega
  | .use a b => by
    have h1 := put_dep_c x c a
    have h2 := put_dep_c x c b
    simp only [put, Tm.dep]
    omega
structure Ln (ra : List Sg) (t : Tm) : Prop where
  cl : t.cl ra
  fd : ∀ y, cn y t.funs ≤ 1
  nd : ∀ y, cn y t.names ≤ 1
  oc : ∀ y, cn y t.funs ≤ cn y t.names
  dj : ∀ y ∈ ra, cn y t.funs = 0
theorem Ln.fn_ {ra : List Sg} {x : Sg} {b : Tm} (h : Ln ra (.fn x b)) : Ln (x :: ra) b ∧ cn x b.names = 1 := by
  have fx := h.fd x
  have nx := h.nd x
  have ox := h.oc x
  simp only [Tm.funs, cn_cons, if_pos, Tm.names] at fx nx ox
  refine ⟨⟨h.cl, fun y => ?_, h.nd, fun y => ?_, fun y hy => ?_⟩, by omega⟩
  · have := h.fd y
    simp only [Tm.funs, cn_cons] at this
    omega
  · have := h.oc y
    simp only [Tm.funs, cn_cons, Tm.names] at this
    omega
  · rcases List.mem_cons.mp hy with e | e
    · subst e; omega
    · have := h.dj y e
      simp only [Tm.funs, cn_cons] at this
      omega
theorem Ln.use_ {ra : List Sg} {a b : Tm} (h : Ln ra (.use a b)) : Ln ra a ∧ Ln ra b := by
  have fd := h.fd
  have nd := h.nd
  have oc := h.oc
  have dj := h.dj
  simp only [Tm.funs, cn_app, Tm.names] at fd nd oc dj
  refine ⟨⟨h.cl.1, fun y => by have := fd y; omega, fun y => by have := nd y; omega, fun y => ?_, fun y hy => by have := dj y hy; omega⟩, ⟨h.cl.2, fun y => by have := fd y; omega, fun y => by have := nd y; omega, fun y => ?_, fun y hy => by have := dj y hy; omega⟩⟩
  · by_cases z : cn y b.names = 0
    · have := oc y; omega
    · have hm : y ∈ b.names := cn_pos.mp (by omega)
      rcases names_mem b ra h.cl.2 y hm with q | q
      · have := dj y q; omega
      · have := cn_pos.mpr q
        have := fd y
        omega
  · by_cases z : cn y a.names = 0
    · have := oc y; omega
    · have hm : y ∈ a.names := cn_pos.mp (by omega)
      rcases names_mem a ra h.cl.1 y hm with q | q
      · have := dj y q; omega
      · have := cn_pos.mpr q
        have := fd y
        omega
def upr : Nat → (Nat → Nat) → Nat → Nat
  | 0, ξ => ξ
  | k + 1, ξ => up (upr k ξ)
def upn : Nat → (Nat → Db) → Nat → Db
  | 0, σ => σ
  | k + 1, σ => ups (upn k σ)
theorem upr_lt {ξ : Nat → Nat} : ∀ (k i : Nat), i < k → upr k ξ i = i
  | 0, i, h => by omega
  | k + 1, 0, _ => rfl
  | k + 1, i + 1, h => by simp only [upr, up, upr_lt k i (by omega)]
theorem upr_ge {ξ : Nat → Nat} : ∀ (k j : Nat), upr k ξ (k + j) = k + ξ j
  | 0, j => by simp [upr]
  | k + 1, j => by
    have e : k + 1 + j = (k + j) + 1 := by omega
    rw [e]
    simp only [upr, up, upr_ge k j]
    omega
theorem upn_lt {σ : Nat → Db} : ∀ (k i : Nat), i < k → upn k σ i = .v i
  | 0, i, h => by omega
  | k + 1, 0, _ => rfl
  | k + 1, i + 1, h => by simp only [upn, ups, upn_lt k i (by omega)]; rfl
theorem upn_ge {σ : Nat → Db} : ∀ (k j : Nat), upn k σ (k + j) = rn (fun i => i + k) (σ j)
  | 0, j => by
    have : (fun i : Nat => i + 0) = fun i => i := rfl
    simp only [upn, Nat.zero_add, this]
    have h : ∀ t : Db, rn (fun i => i) t = t := by
      have hu : up (fun i => i) = fun i => i := by funext i; cases i <;> rfl
      intro t
      induction t with
      | v i => rfl
      | l b ih => simp only [rn, hu, ih]
      | a f g ih ih' => simp only [rn, ih, ih']
    exact (h _).symm
  | k + 1, j => by
    have e : k + 1 + j = (k + j) + 1 := by omega
    rw [e]
    simp only [upn, ups, upn_ge k j, rn_rn]
    congr 1
theorem idx_app {x : Sg} {l m : List Sg} (h : x ∉ l) : (l ++ m).idxOf x = l.length + m.idxOf x := by
  rw [List.idxOf_append, if_neg h]
  omega
theorem idx_app' {x : Sg} {l m : List Sg} (h : x ∈ l) : (l ++ m).idxOf x = l.idxOf x := by
  rw [List.idxOf_append, if_pos h]
theorem db_weak (pre ra : List Sg) : ∀ (c : Tm) (q : List Sg), (∀ z ∈ c.names, z ∉ q → z ∉ pre) → db (q ++ (pre ++ ra)) c = rn (upr q.length (fun i => i + pre.length)) (db (q ++ ra) c)
  | .var z, q, h => by
    simp only [db, rn]
    congr 1
    by_cases hz : z ∈ q
    · rw [idx_app' hz, idx_app' hz, upr_lt _ _ (List.idxOf_lt_length_iff.mpr hz)]
    · rw [idx_app hz, idx_app hz, upr_ge, idx_app (h z (by simp [Tm.names]) hz)]
      omega
  | .fn y b, q, h => by
    have ih := db_weak pre ra b (y :: q) (fun z hz hq => h z hz (fun hh => hq (by simp [hh])))
    simp only [db, rn]
    congr 1
  | .use a b, q, h => by
    simp only [db, rn, db_weak pre ra a q (fun z hz => h z (by simp [Tm.names, hz])), db_weak pre ra b q (fun z hz => h z (by simp [Tm.names, hz]))]
theorem db_put (x : Sg) (c : Tm) (ra : List Sg) : ∀ (b : Tm) (pre : List Sg), x ∉ pre → (∀ y ∈ b.funs, y ≠ x ∧ y ∉ c.names) → (∀ y ∈ pre, y ∉ c.names) → db (pre ++ ra) (put x c b) = sb (upn pre.length (sc1 (db ra c))) (db (pre ++ x :: ra) b)
  | .var y, pre, hx, hb, hp => by
    simp only [put]
    by_cases e : y = x
    · subst e
      have w := db_weak pre ra c [] (fun z hz _ hh => hp z hh hz)
      simp only [List.nil_append, List.length_nil, upr] at w
      rw [if_pos rfl, w]
      simp only [db, sb]
      rw [idx_app hx, List.idxOf_cons_self, upn_ge]
      rfl
    · rw [if_neg e]
      simp only [db, sb]
      have e' : ¬ x = y := fun q => e q.symm
      by_cases hy : y ∈ pre
      · rw [idx_app' hy, idx_app' hy, upn_lt _ _ (List.idxOf_lt_length_iff.mpr hy)]
      · rw [idx_app hy, idx_app hy, idx_ne _ e', upn_ge]
        simp only [sc1, rn]
        congr 1
        omega
  | .fn y b, pre, hx, hb, hp => by
    have hy := hb y (by simp [Tm.funs])
    have ih := db_put x c ra b (y :: pre) (by simp [hx, Ne.symm hy.1]) (fun z hz => hb z (by simp [Tm.funs, hz])) (fun z hz => by
      rcases List.mem_cons.mp hz with q | q
      · rw [q]; exact hy.2
      · exact hp z q)
    simp only [put, db, sb]
    congr 1
  | .use a b, pre, hx, hb, hp => by
    simp only [put, db, sb, db_put x c ra a pre hx (fun z hz => hb z (by simp [Tm.funs, hz])) hp, db_put x c ra b pre hx (fun z hz => hb z (by simp [Tm.funs, hz])) hp]
/-- one step -/
inductive Rd : Tm → Tm → Prop
  | beta (x : Sg) (b c : Tm) : Rd (.use (.fn x b) c) (put x c b)
  | fn (x : Sg) {b b' : Tm} : Rd b b' → Rd (.fn x b) (.fn x b')
  | l {a a' : Tm} (b : Tm) : Rd a a' → Rd (.use a b) (.use a' b)
  | r (a : Tm) {b b' : Tm} : Rd b b' → Rd (.use a b) (.use a b')
/-- a free name stays -/
theorem Rd.keeps {t u : Tm} (h : Rd t u) : ∀ {ra : List Sg} {z : Sg}, Ln ra t → z ∈ ra → z ∈ t.names → 0 < cn z u.names := by
  induction h with
  | beta x b c =>
    intro ra z L hz hn
    obtain ⟨L1, L2⟩ := L.use_
    obtain ⟨L3, hx⟩ := L1.fn_
    rw [put_names_c, hx, Nat.one_mul]
    have ne : ¬ z = x := fun e => by
      have := L.dj z hz
      simp only [Tm.funs, cn_app, cn_cons, if_pos e.symm] at this
      omega
    rw [if_neg ne]
    simp only [Tm.names, List.mem_append] at hn
    rcases hn with q | q
    · have := cn_pos.mpr q; omega
    · have := cn_pos.mpr q; omega
  | fn x h ih =>
    intro ra z L hz hn
    exact ih L.fn_.1 (by simp [hz]) hn
  | l b h ih =>
    intro ra z L hz hn
    simp only [Tm.names, List.mem_append] at hn
    simp only [Tm.names, cn_app]
    rcases hn with q | q
    · have := ih L.use_.1 hz q; omega
    · have := cn_pos.mpr q; omega
  | r a h ih =>
    intro ra z L hz hn
    simp only [Tm.names, List.mem_append] at hn
    simp only [Tm.names, cn_app]
    rcases hn with q | q
    · have := cn_pos.mpr q; omega
    · have := ih L.use_.2 hz q; omega
structure Af (ra : List Sg) (t u : Tm) : Prop where
  ln : Ln ra u
  fc : ∀ y, cn y u.funs ≤ cn y t.funs
  nc : ∀ y, cn y u.names ≤ cn y t.names
  sz : u.size + 3 = t.size
  fl : u.funs.length + 1 = t.funs.length
  par : Par (db ra t) (db ra u)
theorem Ln.mk_use {ra : List Sg} {a b : Tm} (ha : Ln ra a) (hb : Ln ra b) (hf : ∀ y, cn y a.funs + cn y b.funs ≤ 1) (hn : ∀ y, cn y a.names + cn y b.names ≤ 1) : Ln ra (.use a b) where
  cl := ⟨ha.cl, hb.cl⟩
  fd := fun y => by simp only [Tm.funs, cn_app]; exact hf y
  nd := fun y => by simp only [Tm.names, cn_app]; exact hn y
  oc := fun y => by
    have := ha.oc y
    have := hb.oc y
    simp only [Tm.funs, Tm.names, cn_app]
    omega
  dj := fun y hy => by
    have := ha.dj y hy
    have := hb.dj y hy
    simp only [Tm.funs, cn_app]
    omega
theorem Rd.ok {t u : Tm} (h : Rd t u) : ∀ {ra : List Sg}, Ln ra t → Af ra t u := by
  induction h with
  | beta x b c =>
    intro ra L
    obtain ⟨L1, L2⟩ := L.use_
    obtain ⟨L3, hx⟩ := L1.fn_
    have ef : ∀ y, cn y (put x c b).funs = cn y b.funs + cn y c.funs := fun y => by rw [put_funs_c, hx, Nat.one_mul]
    have en : ∀ y, cn y (put x c b).names = (if y = x then 0 else cn y b.names) + cn y c.names := fun y => by rw [put_names_c, hx, Nat.one_mul]
    have es := put_size_c x c b
    rw [hx, Nat.one_mul] at es
    have el := put_flen_c x c b
    rw [hx, Nat.one_mul] at el
    have fd := L.fd
    have nd := L.nd
    simp only [Tm.funs, Tm.names, cn_app, cn_cons] at fd nd
    have xf : cn x b.funs = 0 := L3.dj x (by simp)
    refine ⟨⟨?_, fun y => ?_, fun y => ?_, fun y => ?_, fun y hy => ?_⟩, fun y => ?_, fun y => ?_, ?_, ?_, ?_⟩
    · exact put_cl x b c (x :: ra) ra L3.cl (fun y hy => by
        rcases List.mem_cons.mp hy with q | q
        · exact .inl q
        · exact .inr q) L2.cl
    · rw [ef]; have := fd y; omega
    · rw [en]; have := nd y; split <;> omega
    · rw [ef, en]
      have h1 := L3.oc y
      have h2 := L2.oc y
      by_cases e : y = x
      · subst e; rw [if_pos rfl]; omega
      · rw [if_neg e]; omega
    · rw [ef]
      have h1 := L3.dj y (by simp [hy])
      have h2 := L2.dj y hy
      omega
    · rw [ef]; simp only [Tm.funs, cn_app, cn_cons]; omega
    · rw [en]; simp only [Tm.names, cn_app]; split <;> omega
    · simp only [Tm.size]; omega
    · simp only [Tm.funs, List.length_append, List.length_cons]; omega
    · have e := db_put x c ra b [] (by simp) (fun y hy => ?_) (fun y hy => by simp at hy)
      · simp only [List.nil_append, List.length_nil, upn] at e
        rw [e]
        simp only [db]
        exact .beta (Par.refl _) (Par.refl _)
      · have hy' := cn_pos.mpr hy
        refine ⟨fun q => ?_, fun q => ?_⟩
        · rw [q] at hy'; omega
        · rcases names_mem c ra L2.cl y q with z | z
          · have := L3.dj y (by simp [z]); omega
          · have := cn_pos.mpr z
            have := fd y
            omega
  | fn x h ih =>
    intro ra L
    obtain ⟨L1, hx⟩ := L.fn_
    have A := ih L1
    have fx := L1.dj x (by simp)
    have xn : x ∈ Tm.names _ := cn_pos.mp (show 0 < cn x _ by rw [hx]; decide)
    refine ⟨⟨A.ln.cl, fun y => ?_, A.ln.nd, fun y => ?_, fun y hy => ?_⟩, fun y => ?_, A.nc, ?_, ?_, .l A.par⟩
    · simp only [Tm.funs, cn_cons]
      have := A.fc y
      have := L.fd y
      simp only [Tm.funs, cn_cons] at this
      omega
    · simp only [Tm.funs, cn_cons, Tm.names]
      have h1 := A.ln.oc y
      by_cases e : x = y
      · subst e
        rw [if_pos rfl]
        have h2 := A.fc x
        -- x stands there still
        have h3 : 0 < cn x (Tm.names _) := Rd.keeps h L1 (by simp) xn
        omega
      · rw [if_neg e]; omega
    · simp only [Tm.funs, cn_cons]
      have := A.fc y
      have := L.dj y hy
      simp only [Tm.funs, cn_cons] at this
      omega
    · have := A.fc y
      simp only [Tm.funs, cn_cons]; omega
    · have := A.sz; simp only [Tm.size]; omega
    · have := A.fl; simp only [Tm.funs, List.length_cons]; omega
  | l b h ih =>
    intro ra L
    obtain ⟨L1, L2⟩ := L.use_
    have A := ih L1
    have fd := L.fd
    have nd := L.nd
    simp only [Tm.funs, Tm.names, cn_app] at fd nd
    refine ⟨A.ln.mk_use L2 (fun y => by have := A.fc y; have := fd y; omega) (fun y => by have := A.nc y; have := nd y; omega), fun y => ?_, fun y => ?_, ?_, ?_, .a A.par (Par.refl _)⟩
    · have := A.fc y; simp only [Tm.funs, cn_app]; omega
    · have := A.nc y; simp only [Tm.names, cn_app]; omega
    · have := A.sz; simp only [Tm.size]; omega
    · have := A.fl; simp only [Tm.funs, List.length_append]; omega
  | r a h ih =>
    intro ra L
    obtain ⟨L1, L2⟩ := L.use_
    have A := ih L2
    have fd := L.fd
    have nd := L.nd
    simp only [Tm.funs, Tm.names, cn_app] at fd nd
    refine ⟨L1.mk_use A.ln (fun y => by have := A.fc y; have := fd y; omega) (fun y => by have := A.nc y; have := nd y; omega), fun y => ?_, fun y => ?_, ?_, ?_, .a (Par.refl _) A.par⟩
    · have := A.fc y; simp only [Tm.funs, cn_app]; omega
    · have := A.nc y; simp only [Tm.names, cn_app]; omega
    · have := A.sz; simp only [Tm.size]; omega
    · have := A.fl; simp only [Tm.funs, List.length_append]; omega
end Z51
end

section
namespace Z51
open Z
theorem flat_strs (xs : List Sg) : (xs.map PV.str).all flat = true := by
  rw [List.all_eq_true]
  intro p hp
  obtain ⟨x, _, rfl⟩ := List.mem_map.mp hp
  rfl
theorem any_strs (x : Sg) (xs : List Sg) : ((xs.map PV.str).any fun y => eqP y (.str x)) = decide (x ∈ xs) := by
  induction xs with
  | nil => rfl
  | cons y ys ih =>
    rw [List.map_cons, List.any_cons, ih]
    have : eqP (.str y) (.str x) = decide (y = x) := by
      simp only [eqP]
      exact Bool.eq_iff_iff.mpr (by simp)
    rw [this]
    by_cases h : y = x
    · subst h; simp
    · have h' : ¬ x = y := fun e => h e.symm
      simp [h, h']
theorem in_strs (x : Sg) (xs : List Sg) : doCmp .in_ (.str x) (.lst (xs.map .str)) = some (decide (x ∈ xs)) := by
  have e : doCmp .in_ (.str x) (.lst (xs.map .str)) = inFlat (.str x) (xs.map .str) := rfl
  rw [e]
  unfold inFlat
  rw [flat_strs, any_strs]
  rfl
theorem nin_strs (x : Sg) (xs : List Sg) : doCmp .nin (.str x) (.lst (xs.map .str)) = some (!decide (x ∈ xs)) := by
  have e : doCmp .nin (.str x) (.lst (xs.map .str)) = (doCmp .in_ (.str x) (.lst (xs.map .str))).map (!·) := rfl
  rw [e, in_strs]; rfl
/-- a list of texts as a cell -/
def L (xs : List Sg) : Cell := .lst true ((xs.map PV.str).map .pv)
theorem L_app (xs : List Sg) (x : Sg) : Cell.lst true ((xs.map PV.str).map .pv ++ [.pv (.str x)]) = L (xs ++ [x]) := by simp [L]
section
variable {st : Store} {r : Nat} {xs : List Sg}
theorem peek_L (h : st[r]? = some (L xs)) : peek st (.ref r) = some (.lst (xs.map .str)) := peek_ref h
theorem cmpT_L {x : Sg} (h : st[r]? = some (L xs)) : cmpT .in_ (.pv (.str x)) (.ref r) st = some (.ok (decide (x ∈ xs)) st) := by
  unfold cmpT
  rw [peek_L h]
  simp [in_strs]
theorem cmpT_Ln {x : Sg} (h : st[r]? = some (L xs)) : cmpT .nin (.pv (.str x)) (.ref r) st = some (.ok (!decide (x ∈ xs)) st) := by
  unfold cmpT
  rw [peek_L h]
  simp [nin_strs]
theorem app_L {x : Sg} (h : st[r]? = some (L xs)) (hl : xs.length < line) : doBM .append (.ref r) [.pv (.str x)] st = some (.ok (.pv .non) (st.set r (L (xs ++ [x])))) := by
  rw [do_append h (by simpa using hl), L_app]
end
/-! ### places of steps -/
def Tm.isFn : Tm → Bool
  | .fn _ _ => true
  | _ => false
def plc : Tm → Sg → List Sg
  | .var _, _ => []
  | .fn _ b, p => plc b (p ++ [48])
  | .use a b, p => (if a.isFn then [p] else []) ++ (plc a (p ++ [48]) ++ plc b (p ++ [49]))
theorem plc_len : ∀ (t : Tm) (p : Sg), (plc t p).length ≤ t.size
  | .var _, _ => by simp [plc]
  | .fn _ b, p => by
    have := plc_len b (p ++ [48])
    simp only [plc, Tm.size]; omega
  | .use a b, p => by
    have := plc_len a (p ++ [48])
    have := plc_len b (p ++ [49])
    have : (if a.isFn then [p] else ([] : List Sg)).length ≤ 1 := by split <;> simp
    simp only [plc, Tm.size, List.length_append]; omega
/-- uses, so many -/
def Tm.uses : Tm → Nat
  | .var _ => 0
  | .fn _ b => b.uses
  | .use a b => 1 + a.uses + b.uses
theorem plc_uses : ∀ (t : Tm) (p : Sg), (plc t p).length ≤ t.uses
  | .var _, _ => by simp [plc]
  | .fn _ b, p => by
    have := plc_uses b (p ++ [48])
    simp only [plc, Tm.uses]; omega
  | .use a b, p => by
    have := plc_uses a (p ++ [48])
    have := plc_uses b (p ++ [49])
    have : (if a.isFn then [p] else ([] : List Sg)).length ≤ 1 := by split <;> simp
    simp only [plc, Tm.uses, List.length_append]; omega
theorem uses_vars : ∀ t : Tm, t.uses + 1 = t.vars
  | .var _ => rfl
  | .fn _ b => uses_vars b
  | .use a b => by
    have := uses_vars a
    have := uses_vars b
    simp only [Tm.uses, Tm.vars]; omega
theorem srtS_perm {xs ys : List Sg} (p : xs.Perm ys) : srtS xs = srtS ys := by
  have tot : ∀ a b : Sg, decide (a ≤ b) = true ∨ decide (b ≤ a) = true := fun a b => by
    rcases List.le_total a b with h | h
    · exact .inl (decide_eq_true h)
    · exact .inr (decide_eq_true h)
  have tr : ∀ a b c : Sg, decide (a ≤ b) = true → decide (b ≤ c) = true → decide (a ≤ c) = true := fun a b c h h' => decide_eq_true (List.le_trans (of_decide_eq_true h) (of_decide_eq_true h'))
  exact srt_uniq (le := fun a b => decide (a ≤ b)) (fun a b h h' => List.le_antisymm (of_decide_eq_true h) (of_decide_eq_true h')) ((srtA_perm _ xs).trans (p.trans (srtA_perm _ ys).symm)) (srtA_srt tot tr xs) (srtA_srt tot tr ys)
theorem srtS_len (xs : List Sg) : (srtS xs).length = xs.length := (srtA_perm _ xs).length_eq
theorem srtS_mem {x : Sg} {xs : List Sg} : x ∈ srtS xs ↔ x ∈ xs := (srtA_perm _ xs).mem_iff
theorem srtS_p (xs : List Sg) : (srtS xs).Perm xs := srtA_perm _ xs
theorem sort_strs (xs : List Sg) : doBI .sorted [.lst (xs.map .str)] = some (.lst ((srtS xs).map .str)) := by
  have h2 : strsOf (xs.map .str) = some xs := strsOf_map xs
  show doSort (xs.map .str) = _
  unfold doSort
  cases xs with
  | nil => rfl
  | cons x xs =>
    have h1 : intsOf ((x :: xs).map PV.str) = none := rfl
    rw [h1]
    simp only [h2]
def canP (a : PV) : Bool := match a with
  | .tup (.str [102, 117, 110] :: _) => true
  | _ => false
theorem can_of (a b : Tm) (n : Nat) (st : Store) : (Pr.sem (n + 1)).call 4 [.pv (Tm.use a b).tree] st = some (.ok (.pv (.bl a.isFn)) st) := by
  refine call1 (P := Pr) (st1 := []) rfl ?_
  rw [cal_eq Pr n 4 m4 _ _ rfl rfl]
  cases a <;> simp [m4, Tm.tree, Tm.isFn]
theorem cant_of (t : Tm) (h : ∀ a b, t ≠ .use a b) (n : Nat) (st : Store) : (Pr.sem (n + 1)).call 4 [.pv t.tree] st = some (.ok (.pv (.bl false)) st) := by
  refine call1 (P := Pr) (st1 := []) rfl ?_
  rw [cal_eq Pr n 4 m4 _ _ rfl rfl]
  cases t with
  | use a b => exact absurd rfl (h a b)
  | var x => simp [m4, Tm.tree]
  | fn x b => simp [m4, Tm.tree]
theorem parts_var (x : Sg) (n : Nat) (st : Store) : (Pr.sem (n + 1)).call 3 [.pv (Tm.var x).tree] st = some (.ok (.pv (.lst [])) st) := by
  refine call1 (P := Pr) (st1 := []) rfl ?_
  rw [cal_eq Pr n 3 m3 _ _ rfl rfl]
  simp [m3, Tm.tree]
theorem parts_fn (x : Sg) (b : Tm) (n : Nat) (st : Store) : (Pr.sem (n + 1)).call 3 [.pv (Tm.fn x b).tree] st = some (.ok (.pv (.lst [.tup [.str [48], b.tree]])) st) := by
  refine call1 (P := Pr) (st1 := []) rfl ?_
  rw [cal_eq Pr n 3 m3 _ _ rfl rfl]
  simp [m3, Tm.tree]
theorem parts_use (a b : Tm) (n : Nat) (st : Store) : (Pr.sem (n + 1)).call 3 [.pv (Tm.use a b).tree] st = some (.ok (.pv (.lst [.tup [.str [48], a.tree], .tup [.str [49], b.tree]])) st) := by
  refine call1 (P := Pr) (st1 := []) rfl ?_
  rw [cal_eq Pr n 3 m3 _ _ rfl rfl]
  simp [m3, Tm.tree]
theorem ext_L {xs ys : List Sg} (h : xs.length + ys.length ≤ line) : doBM .extend (.ref 0) [.pv (.lst (ys.map .str))] [L xs] = some (.ok (.pv .non) [L (xs ++ ys)]) := by
  have sq0 : sq [L xs] (.pv (.lst (ys.map .str))) = some ((ys.map PV.str).map .pv) := rfl
  have hl : ((xs.map PV.str).map LV.pv).length + ((ys.map PV.str).map LV.pv).length ≤ line := by simp; omega
  have e : doBM .extend (.ref 0) [.pv (.lst (ys.map .str))] [L xs] = if ((xs.map PV.str).map LV.pv).length + ((ys.map PV.str).map LV.pv).length ≤ line then some (.ok (.pv .non) (([L xs] : Store).set 0 (.lst true (((xs.map PV.str).map LV.pv) ++ ((ys.map PV.str).map LV.pv))))) else none := rfl
  rw [e, if_pos hl]
  simp [L]
theorem places_of : ∀ (t : Tm) (n : Nat) (p : Sg), t.dep + 2 ≤ n → p.length + t.dep ≤ 1000 → t.size ≤ 10000 → ∃ st, Pr.cal n 5 [.pv t.tree, .pv (.str p)] [] = some (.ok (.pv (.lst ((plc t p).map .str))) st)
  | .var x, n, p, h, hp, hz => by
    obtain ⟨n, rfl⟩ : ∃ m, n = m + 2 := ⟨n - 2, by omega⟩
    rw [cal_eq Pr (n + 1) 5 m5 _ _ rfl rfl]
    have c := cant_of (.var x) (fun a b e => by cases e) n []
    have pa := parts_var x n [L []]
    have hc : [Cell.lst true []] = [L []] := rfl
    have fz : frz (.ref 0) [L []] = some (.lst [], [Cell.lst false []]) := frz_ref (b := true) rfl
    refine ⟨[Cell.lst false []], ?_⟩
    simp [m5, c, hc, pa, fz, plc]
  | .fn x b, n, p, h, hp, hz => by
    obtain ⟨n, rfl⟩ : ∃ m, n = m + 2 := ⟨n - 2, by omega⟩
    rw [cal_eq Pr (n + 1) 5 m5 _ _ rfl rfl]
    simp only [Tm.dep] at h hp
    simp only [Tm.size] at hz
    have hline := line_eq
    have c := cant_of (.fn x b) (fun a b e => by cases e) n []
    have pa := parts_fn x b n [L []]
    have hc : [Cell.lst true []] = [L []] := rfl
    obtain ⟨st', ih⟩ := places_of b (n + 1) (p ++ [48]) (by omega) (by simp; omega) (by omega)
    have ic := fun st => call2 (P := Pr) (f := 5) (st := st) rfl ih
    have cp : doBin .add (.str p) (.str [48]) = some (.str (p ++ [48])) := cat_str (by simp; omega)
    have pl := plc_len b (p ++ [48])
    have ex := ext_L (xs := []) (ys := plc b (p ++ [48])) (by simp; omega)
    have bo : ∀ xs, bmOk .extend (.ref 0) [L xs] = true := fun _ => rfl
    have fz : frz (.ref 0) [L (plc b (p ++ [48]))] = some (.lst ((plc b (p ++ [48])).map .str), [Cell.lst false (((plc b (p ++ [48])).map PV.str).map .pv)]) := frz_ref (b := true) rfl
    rw [List.nil_append] at ex
    simp only [plc]
    generalize plc b (p ++ [48]) = ys at ic ex fz ⊢
    generalize p ++ [48] = p0 at cp ic
    refine ⟨[Cell.lst false ((ys.map PV.str).map .pv)], ?_⟩
    simp [m5, c, hc, pa, forLoop_cons, forStep, cp, ic, bo, ex, fz]
  | .use a b, n, p, h, hp, hz => by
    obtain ⟨n, rfl⟩ : ∃ m, n = m + 2 := ⟨n - 2, by omega⟩
    rw [cal_eq Pr (n + 1) 5 m5 _ _ rfl rfl]
    simp only [Tm.dep] at h hp
    simp only [Tm.size] at hz
    have hline := line_eq
    have c := can_of a b n []
    obtain ⟨f, hf⟩ : ∃ f : List Sg, f = if a.isFn then [p] else [] := ⟨_, rfl⟩
    have fl : f.length ≤ 1 := by rw [hf]; split <;> simp
    have pa := parts_use a b n [L f]
    obtain ⟨s1, i1⟩ := places_of a (n + 1) (p ++ [48]) (by omega) (by simp; omega) (by omega)
    obtain ⟨s2, i2⟩ := places_of b (n + 1) (p ++ [49]) (by omega) (by simp; omega) (by omega)
    have c1 := fun st => call2 (P := Pr) (f := 5) (st := st) rfl i1
    have c2 := fun st => call2 (P := Pr) (f := 5) (st := st) rfl i2
    have cp : doBin .add (.str p) (.str [48]) = some (.str (p ++ [48])) := cat_str (by simp; omega)
    have cp2 : doBin .add (.str p) (.str [49]) = some (.str (p ++ [49])) := cat_str (by simp; omega)
    have pl := plc_len a (p ++ [48])
    have pl2 := plc_len b (p ++ [49])
    have ex := ext_L (xs := f) (ys := plc a (p ++ [48])) (by omega)
    have ex2 := ext_L (xs := f ++ plc a (p ++ [48])) (ys := plc b (p ++ [49])) (by rw [List.length_append]; omega)
    have bo : ∀ xs, bmOk .extend (.ref 0) [L xs] = true := fun _ => rfl
    have fz : ∀ zs : List Sg, frz (.ref 0) [L zs] = some (.lst (zs.map .str), [Cell.lst false ((zs.map PV.str).map .pv)]) := fun zs => frz_ref (b := true) rfl
    rw [List.append_assoc] at ex2
    simp only [plc, ← hf]
    generalize plc a (p ++ [48]) = ys at c1 ex ex2 ⊢
    generalize plc b (p ++ [49]) = zs at c2 ex2 ⊢
    generalize p ++ [48] = p0 at cp c1
    generalize p ++ [49] = p1 at cp2 c2
    refine ⟨[Cell.lst false (((f ++ (ys ++ zs)).map PV.str).map .pv)], ?_⟩
    have fz' := fz (f ++ (ys ++ zs))
    cases ha : a.isFn with
    | true =>
      rw [ha] at c hf
      have hc : [Cell.lst true [.pv (.str p)]] = [L f] := by rw [hf]; rfl
      have mk := mkLst_live [LV.pv (.str p)] (st := []) (by rw [line_eq]; simp)
      simp at mk
      rw [hc] at mk
      generalize f ++ (ys ++ zs) = F at ex2 fz' ⊢
      generalize f ++ ys = G at ex ex2
      simp [m5, c, mk, pa, forLoop_cons, forStep, cp, c1, bo, ex, cp2, c2, ex2, fz']
    | false =>
      rw [ha] at c hf
      have hc : [Cell.lst true []] = [L f] := by rw [hf]; rfl
      generalize f ++ (ys ++ zs) = F at ex2 fz' ⊢
      generalize f ++ ys = G at ex ex2
      simp [m5, c, hc, pa, forLoop_cons, forStep, cp, c1, bo, ex, cp2, c2, ex2, fz']
theorem steps_at_of (t : Tm) (n : Nat) (h : t.dep + 3 ≤ n) (hp : t.dep ≤ 900) (hz : t.size ≤ 10000) : ∃ st, Pr.cal n 6 [.pv t.tree] [] = some (.ok (.pv (.lst ((srtS (plc t [])).map .str))) st) := by
  obtain ⟨n, rfl⟩ : ∃ m, n = m + 1 := ⟨n - 1, by omega⟩
  rw [cal_eq Pr n 6 m6 _ _ rfl rfl]
  obtain ⟨s, e⟩ := places_of t n [] (by omega) (by simp; omega) hz
  have c := fun st => call2 (P := Pr) (f := 5) (st := st) rfl e
  have so := sort_strs (plc t [])
  refine ⟨[], ?_⟩
  simp [m6, c, so]
def stp : Tm → Sg → Option Tm
  | .use (.fn x b) c, [] => some (put x c b)
  | .fn x b, 48 :: r => (stp b r).map (.fn x)
  | .use a b, 48 :: r => (stp a r).map fun u => .use u b
  | .use a b, 49 :: r => (stp b r).map (.use a)
  | _, _ => none
theorem put_of (x : Sg) (c : Tm) : ∀ (t : Tm) (n : Nat), t.dep ≤ n → Pr.cal n 7 [.pv t.tree, .pv (.str x), .pv c.tree] [] = some (.ok (.pv (put x c t).tree) [])
  | .var y, n, h => by
    obtain ⟨n, rfl⟩ : ∃ m, n = m + 1 := ⟨n - 1, by simp only [Tm.dep] at h; omega⟩
    rw [cal_eq Pr n 7 m7 _ _ rfl rfl]
    have e := eq_str y x
    by_cases hy : y = x
    · subst hy; simp [m7, Tm.tree, put, e]
    · simp [m7, Tm.tree, put, e, hy]
  | .fn y b, n, h => by
    obtain ⟨n, rfl⟩ : ∃ m, n = m + 1 := ⟨n - 1, by simp only [Tm.dep] at h; omega⟩
    rw [cal_eq Pr n 7 m7 _ _ rfl rfl]
    simp only [Tm.dep] at h
    have hb := call3 (P := Pr) (f := 7) (st := []) rfl (put_of x c b n (by omega))
    simp [m7, Tm.tree, put, hb]
  | .use a b, n, h => by
    obtain ⟨n, rfl⟩ : ∃ m, n = m + 1 := ⟨n - 1, by simp only [Tm.dep] at h; omega⟩
    rw [cal_eq Pr n 7 m7 _ _ rfl rfl]
    simp only [Tm.dep] at h
    have ha := call3 (P := Pr) (f := 7) (st := []) rfl (put_of x c a n (by omega))
    have hb := call3 (P := Pr) (f := 7) (st := []) rfl (put_of x c b n (by omega))
    simp [m7, Tm.tree, put, ha, hb]
theorem with_fn (x : Sg) (b u : PV) (n : Nat) (st : Store) : (Pr.sem (n + 1)).call 8 [.pv (.tup [.str [102, 117, 110], .str x, b]), .pv (.str [48]), .pv u] st = some (.ok (.pv (.tup [.str [102, 117, 110], .str x, u])) st) := by
  refine call3 (P := Pr) (st1 := []) rfl ?_
  rw [cal_eq Pr n 8 m8 _ _ rfl rfl]
  simp [m8]
theorem with_l (a b u : PV) (n : Nat) (st : Store) : (Pr.sem (n + 1)).call 8 [.pv (.tup [.str [117, 115, 101], a, b]), .pv (.str [48]), .pv u] st = some (.ok (.pv (.tup [.str [117, 115, 101], u, b])) st) := by
  refine call3 (P := Pr) (st1 := []) rfl ?_
  rw [cal_eq Pr n 8 m8 _ _ rfl rfl]
  simp [m8]
theorem with_r (a b u : PV) (n : Nat) (st : Store) : (Pr.sem (n + 1)).call 8 [.pv (.tup [.str [117, 115, 101], a, b]), .pv (.str [49]), .pv u] st = some (.ok (.pv (.tup [.str [117, 115, 101], a, u])) st) := by
  refine call3 (P := Pr) (st1 := []) rfl ?_
  rw [cal_eq Pr n 8 m8 _ _ rfl rfl]
  simp [m8]
theorem eqPS (a b : Sg) : eqP (.str a) (.str b) = decide (a = b) := by
  have e : eqP (.str a) (.str b) = (a == b) := rfl
  rw [e, Bool.eq_iff_iff]
  simp
theorem step_facts (c : Nat) (r : Sg) (hl : (c :: r).length ≤ line) : doCmp .eq (.str (c :: r)) (.str []) = some false ∧ doIdx (.str (c :: r)) (.int 0) = some (.str [c]) ∧ doSlc (.str (c :: r)) (some 1) none = some (.str r) := by
  refine ⟨?_, ?_, ?_⟩
  · rw [show doCmp .eq (.str (c :: r)) (.str []) = some (eqP (.str (c :: r)) (.str [])) from rfl, eqPS]; simp
  · have := idx_str (s := c :: r) (k := 0) hl (by simp)
    simpa using this
  · rw [slc_str hl, cut1]
theorem step_of : ∀ (t : Tm) (s : Sg) (u : Tm) (n : Nat), stp t s = some u → t.dep + 2 ≤ n → s.length ≤ 1000 → ∃ st, Pr.cal n 9 [.pv t.tree, .pv (.str s)] [] = some (.ok (.pv u.tree) st)
  | .var x, s, u, n, h, _, _ => by
    cases s <;> simp [stp] at h
  | .fn x b, [], u, n, h, _, _ => by simp [stp] at h
  | .fn x b, c :: r, u, n, h, hn, hl => by
    obtain ⟨n, rfl⟩ : ∃ m, n = m + 2 := ⟨n - 2, by omega⟩
    by_cases hc : c = 48
    · subst hc
      simp only [stp, Option.map_eq_some_iff] at h
      obtain ⟨v, hv, e⟩ := h
      subst e
      simp only [Tm.dep] at hn
      obtain ⟨s1, ih⟩ := step_of b r v (n + 1) hv (by omega) (by simp at hl; omega)
      have c1 := fun st => call2 (P := Pr) (f := 9) (st := st) rfl ih
      have hline := line_eq
      obtain ⟨f1, f2, f3⟩ := step_facts 48 r (by omega)
      have pa := parts_fn x b n []
      have w := with_fn x b.tree v.tree n []
      refine ⟨[], ?_⟩
      rw [cal_eq Pr (n + 1) 9 m9 _ _ rfl rfl]
      simp only [Tm.tree] at pa ⊢
      simp [m9, f1, f2, f3, pa, forLoop_cons, forStep, optL, c1, w]
    · exfalso
      simp [stp, hc] at h
  | .use a b, [], u, n, h, hn, hl => by
    obtain ⟨n, rfl⟩ : ∃ m, n = m + 2 := ⟨n - 2, by omega⟩
    cases a with
    | fn x b' =>
      simp only [stp, Option.some.injEq] at h
      subst h
      simp only [Tm.dep] at hn
      have c := can_of (.fn x b') b n []
      have p := call3 (P := Pr) (f := 7) (st := []) rfl (put_of x b b' (n + 1) (by omega))
      refine ⟨[], ?_⟩
      rw [cal_eq Pr (n + 1) 9 m9 _ _ rfl rfl]
      simp only [Tm.tree, Tm.isFn] at c ⊢
      simp [m9, c, p]
    | var x => simp [stp] at h
    | use x y => simp [stp] at h
  | .use a b, c :: r, u, n, h, hn, hl => by
    obtain ⟨n, rfl⟩ : ∃ m, n = m + 2 := ⟨n - 2, by omega⟩
    have hline := line_eq
    simp only [Tm.dep] at hn
    obtain ⟨f1, f2, f3⟩ := step_facts c r (by omega)
    have pa := parts_use a b n []
    by_cases hc : c = 48
    · subst hc
      have h' : (stp a r).map (fun u => Tm.use u b) = some u := by
        cases a <;> simpa [stp] using h
      obtain ⟨v, hv, e⟩ := Option.map_eq_some_iff.mp h'
      subst e
      obtain ⟨s1, ih⟩ := step_of a r v (n + 1) hv (by omega) (by simp at hl; omega)
      have c1 := fun st => call2 (P := Pr) (f := 9) (st := st) rfl ih
      have w := with_l a.tree b.tree v.tree n []
      refine ⟨[], ?_⟩
      rw [cal_eq Pr (n + 1) 9 m9 _ _ rfl rfl]
      simp only [Tm.tree] at pa ⊢
      simp [m9, f1, f2, f3, pa, forLoop_cons, forStep, optL, c1, w]
    · by_cases hc1 : c = 49
      · subst hc1
        have h' : (stp b r).map (Tm.use a) = some u := by
          cases a <;> simpa [stp] using h
        obtain ⟨v, hv, e⟩ := Option.map_eq_some_iff.mp h'
        subst e
        obtain ⟨s1, ih⟩ := step_of b r v (n + 1) hv (by omega) (by simp at hl; omega)
        have c1 := fun st => call2 (P := Pr) (f := 9) (st := st) rfl ih
        have w := with_r a.tree b.tree v.tree n []
        have e01 : doCmp .eq (.str [48]) (.str [49]) = some false := rfl
        refine ⟨[], ?_⟩
        rw [cal_eq Pr (n + 1) 9 m9 _ _ rfl rfl]
        simp only [Tm.tree] at pa ⊢
        simp [m9, f1, f2, f3, pa, forLoop_cons, forStep, optL, c1, w, e01]
      · exfalso
        cases a <;> simp [stp, hc, hc1] at h
theorem plc_valid : ∀ (t : Tm) (p y : Sg), y ∈ plc t p → ∃ s u, y = p ++ s ∧ stp t s = some u ∧ s.length ≤ t.dep
  | .var _, _, _, h => by simp [plc] at h
  | .fn x b, p, y, h => by
    obtain ⟨s, u, e1, e2, e3⟩ := plc_valid b (p ++ [48]) y h
    exact ⟨48 :: s, .fn x u, by rw [e1]; simp, by simp [stp, e2], by simp only [List.length_cons, Tm.dep]; omega⟩
  | .use a b, p, y, h => by
    simp only [plc, List.mem_append] at h
    rcases h with h | h | h
    · cases a with
      | fn x b' =>
        simp [Tm.isFn] at h
        exact ⟨[], put x b b', by simp [h], rfl, by simp⟩
      | var x => simp [Tm.isFn] at h
      | use x z => simp [Tm.isFn] at h
    · obtain ⟨s, u, e1, e2, e3⟩ := plc_valid a (p ++ [48]) y h
      refine ⟨48 :: s, .use u b, by rw [e1]; simp, ?_, by simp only [List.length_cons, Tm.dep]; omega⟩
      cases a <;> simp [stp] at e2 ⊢ <;> simp [e2]
    · obtain ⟨s, u, e1, e2, e3⟩ := plc_valid b (p ++ [49]) y h
      refine ⟨49 :: s, .use a u, by rw [e1]; simp, ?_, by simp only [List.length_cons, Tm.dep]; omega⟩
      cases a <;> simp [stp, e2]
/-! ### terms that no step can change; ways to the end -/
def nrT : Tm → Prop
  | .var _ => True
  | .fn _ b => nrT b
  | .use (.fn _ _) _ => False
  | .use (.var _) b => nrT b
  | .use (.use a c) b => nrT (.use a c) ∧ nrT b
theorem nrT_db : ∀ (t : Tm) (ra : List Sg), nrT t → nrm (db ra t)
  | .var _, _, _ => trivial
  | .fn x b, ra, h => nrT_db b (x :: ra) h
  | .use (.fn _ _) _, _, h => h.elim
  | .use (.var _) b, ra, h => nrT_db b ra h
  | .use (.use a c) b, ra, h => ⟨nrT_db (.use a c) ra h.1, nrT_db b ra h.2⟩
theorem nrT_plc : ∀ (t : Tm) (p : Sg), plc t p = [] → nrT t
  | .var _, _, _ => trivial
  | .fn x b, p, h => nrT_plc b (p ++ [48]) h
  | .use (.fn x b) c, p, h => by simp [plc, Tm.isFn] at h
  | .use (.var _) b, p, h => nrT_plc b (p ++ [49]) (by simp [plc, Tm.isFn] at h; exact h)
  | .use (.use a c) b, p, h => by
    simp only [plc, Tm.isFn, Bool.false_eq_true, if_false, List.nil_append, List.append_eq_nil_iff] at h
    refine ⟨nrT_plc (.use a c) (p ++ [48]) ?_, nrT_plc b (p ++ [49]) h.2⟩
    simp only [plc, List.append_eq_nil_iff]
    exact h.1
inductive Rds : Tm → Tm → Prop
  | refl (t : Tm) : Rds t t
  | step {t u w : Tm} : Rd t u → Rds u w → Rds t w
theorem stp_rd : ∀ (t : Tm) (s : Sg) (u : Tm), stp t s = some u → Rd t u
  | .var _, s, u, h => by cases s <;> simp [stp] at h
  | .fn x b, s, u, h => by
    cases s with
    | nil => simp [stp] at h
    | cons c r =>
      by_cases hc : c = 48
      · subst hc
        simp only [stp, Option.map_eq_some_iff] at h
        obtain ⟨v, h1, h2⟩ := h
        subst h2
        exact .fn x (stp_rd b r v h1)
      · simp [stp, hc] at h
  | .use a b, s, u, h => by
    cases s with
    | nil =>
      cases a with
      | fn x c =>
        simp only [stp, Option.some.injEq] at h
        subst h
        exact .beta x c b
      | var x => simp [stp] at h
      | use x y => simp [stp] at h
    | cons c r =>
      by_cases hc : c = 48
      · subst hc
        have h' : (stp a r).map (fun u => Tm.use u b) = some u := by cases a <;> simpa [stp] using h
        simp only [Option.map_eq_some_iff] at h'
        obtain ⟨v, h1, h2⟩ := h'
        subst h2
        exact .l b (stp_rd a r v h1)
      · by_cases hc1 : c = 49
        · subst hc1
          have h' : (stp b r).map (Tm.use a) = some u := by cases a <;> simpa [stp] using h
          simp only [Option.map_eq_some_iff] at h'
          obtain ⟨v, h1, h2⟩ := h'
          subst h2
          exact .r a (stp_rd b r v h1)
        · cases a <;> simp [stp, hc, hc1] at h
/-- closed and linear -/
structure Lc (t : Tm) : Prop where
  ln : Ln [] t
  eq : t.names.length = t.funs.length
theorem Rd.nlen {t u : Tm} (h : Rd t u) : ∀ {ra : List Sg}, Ln ra t → u.names.length + 1 = t.names.length := by
  have pl : ∀ (x : Sg) (c b : Tm), (put x c b).names.length + cn x b.names = b.names.length + cn x b.names * c.names.length := by
    intro x c b
    induction b with
    | var z =>
      simp only [put, Tm.names, cn_nil, cn_cons]
      by_cases e : z = x <;> simp [e, Tm.names] <;> omega
    | fn z b ih => simpa only [put, Tm.names] using ih
    | use a b ih ih' =>
      simp only [put, Tm.names, List.length_append, cn_app, Nat.add_mul]
      omega
  induction h with
  | beta x b c =>
    intro ra L
    obtain ⟨_, hx⟩ := L.use_.1.fn_
    have := pl x c b
    rw [hx, Nat.one_mul] at this
    simp only [Tm.names, List.length_append]
    omega
  | fn x h ih => exact fun L => ih L.fn_.1
  | l b h ih =>
    intro ra L
    have := ih L.use_.1
    simp only [Tm.names, List.length_append]
    omega
  | r a h ih =>
    intro ra L
    have := ih L.use_.2
    simp only [Tm.names, List.length_append]
    omega
theorem Lc.rd {t u : Tm} (L : Lc t) (h : Rd t u) : Lc u := by
  have A := h.ok L.ln
  have n := h.nlen L.ln
  have := A.fl
  have := L.eq
  exact ⟨A.ln, by omega⟩
theorem Lc.rds {t u : Tm} (L : Lc t) (h : Rds t u) : Lc u ∧ Ps (db [] t) (db [] u) ∧ u.funs.length ≤ t.funs.length := by
  induction h with
  | refl => exact ⟨L, .refl _, Nat.le_refl _⟩
  | step a _ ih =>
    have A := a.ok L.ln
    obtain ⟨h1, h2, h3⟩ := ih (L.rd a)
    exact ⟨h1, .step A.par h2, by have := A.fl; omega⟩
theorem names_vars : ∀ t : Tm, t.names.length = t.vars
  | .var _ => rfl
  | .fn _ b => names_vars b
  | .use a b => by simp only [Tm.names, List.length_append, Tm.vars, names_vars a, names_vars b]
theorem dep_uf : ∀ t : Tm, t.dep ≤ t.uses + t.funs.length + 1
  | .var _ => by simp [Tm.dep]
  | .fn _ b => by have := dep_uf b; simp only [Tm.dep, Tm.uses, Tm.funs, List.length_cons]; omega
  | .use a b => by
    have := dep_uf a
    have := dep_uf b
    simp only [Tm.dep, Tm.uses, Tm.funs, List.length_append]
    omega
theorem Lc.dep_le {t : Tm} (L : Lc t) : t.dep ≤ 2 * t.funs.length := by
  have := dep_uf t
  have := uses_vars t
  have := names_vars t
  have := L.eq
  omega
theorem Lc.size_le {t : Tm} (L : Lc t) : t.size + 1 = 3 * t.funs.length := by
  have := t.size_eq
  have := names_vars t
  have := L.eq
  omega
/-- two ways from one term end in one -/
theorem ends_one {t t' u u' : Tm} (L : Lc t) (L' : Lc t') (e : Ps (db [] t) (db [] t')) (h : Rds t u) (h' : Rds t' u') (n : nrT u) (n' : nrT u') : db [] u = db [] u' :=
  nrm_two e (L.rds h).2.1 (L'.rds h').2.1 (nrT_db u [] n) (nrT_db u' [] n')
theorem ends_plain {t t' u u' : Tm} (L : Lc t) (L' : Lc t') (e : Ps (db [] t) (db [] t')) (h : Rds t u) (h' : Rds t' u') (n : nrT u) (n' : nrT u') : plain u = plain u' := by
  rw [plain_db u (L.rds h).1.ln.cl, plain_db u' (L'.rds h').1.ln.cl, ends_one L L' e h h' n n']
/-! ### the program's end -/
abbrev trT (L : List Tm) : List PV := L.map Tm.tree
abbrev weB : List MS := [.ex (.bm .append (.var 1) [.call 9 [.idx (.var 1) (.neg (.lit (.int 1))), .idx (.var 2) (.lit (.int 0))]]), .asg (.nm 2) (.call 6 [.idx (.var 1) (.neg (.lit (.int 1)))])]
theorem way_loop {n : Nat} {c0 : PV} : ∀ (m : Nat) (t : Tm) (L : List Tm), Lc t → t.funs.length < m → 2 * t.funs.length + 5 ≤ n → t.funs.length ≤ 400 → L.length + t.funs.length < 10000 → ∃ (L' : List Tm) (u : Tm), Rds t u ∧ nrT u ∧
    whLoop (evT (Pr.sem n) (.val (.var 2))) (exSs (Pr.sem n) weB) m [some (.pv c0), some (.ref 0), some (.pv (.lst ((srtS (plc t [])).map .str)))] [.lst true ((trT (L ++ [t])).map .pv)] = some (.nx [some (.pv c0), some (.ref 0), some (.pv (.lst []))] [.lst true ((trT (L' ++ [u])).map .pv)])
  | 0, t, L, _, h, _, _, _ => by omega
  | m + 1, t, L, hc, h, hn, hf, hL => by
    cases hp : srtS (plc t []) with
    | nil =>
      have e : plc t [] = [] := by
        have := srtS_len (plc t [])
        rw [hp] at this
        exact List.length_eq_zero_iff.mp this.symm
      refine ⟨L, t, .refl t, nrT_plc t [] e, ?_⟩
      exact whLoop_false (by simp [tru])
    | cons y ys =>
      have hy : y ∈ plc t [] := by
        have : y ∈ srtS (plc t []) := by rw [hp]; simp
        exact srtS_mem.mp this
      obtain ⟨s, u, e1, e2, e3⟩ := plc_valid t [] y hy
      rw [List.nil_append] at e1
      subst e1
      have hr := stp_rd t y u e2
      have Lu := hc.rd hr
      have A := hr.ok hc.ln
      have fl := A.fl
      have dt := hc.dep_le
      have du := Lu.dep_le
      have st := hc.size_le
      have su := Lu.size_le
      obtain ⟨L', w, h1, h2, ih⟩ := way_loop (n := n) (c0 := c0) m u (L ++ [t]) Lu (by omega) (by omega) (by omega) (by simp; omega)
      refine ⟨L', w, .step hr h1, h2, ?_⟩
      obtain ⟨g1, c1⟩ := step_of t y u n e2 (by omega) (by omega)
      obtain ⟨g2, c2⟩ := steps_at_of u n (by omega) (by omega) (by omega)
      have k1 := fun st => call2 (P := Pr) (f := 9) (st := st) rfl c1
      have k2 := fun st => call1 (P := Pr) (f := 6) (st := st) rfl c2
      have hline : line = 16777216 := rfl
      have la : getI (.ref 0) (.pv (.int (-1))) [.lst true ((trT (L ++ [t])).map .pv)] = some (.ok (.pv t.tree) [.lst true ((trT (L ++ [t])).map .pv)]) := getI_ref (r := 0) rfl (by simp only [trT, List.map_append, List.map_cons, List.map_nil]; exact atI_last _ _)
      have lb : getI (.ref 0) (.pv (.int (-1))) [.lst true ((trT (L ++ [t] ++ [u])).map .pv)] = some (.ok (.pv u.tree) [.lst true ((trT (L ++ [t] ++ [u])).map .pv)]) := getI_ref (r := 0) rfl (by simp only [trT, List.map_append, List.map_cons, List.map_nil]; exact atI_last _ _)
      have ap := do_append (st := [.lst true ((trT (L ++ [t])).map .pv)]) (r := 0) (v := .pv u.tree) (L := (trT (L ++ [t])).map .pv) rfl (by simp; omega)
      have bo := bm_append (st := [.lst true ((trT (L ++ [t])).map .pv)]) (r := 0) (b := true) (L := (trT (L ++ [t])).map .pv) rfl
      have ee : (trT (L ++ [t])).map LV.pv ++ [.pv u.tree] = (trT (L ++ [t] ++ [u])).map .pv := by simp
      rw [ee] at ap
      have z0 : atI ((y :: ys).map PV.str) 0 = some (.str y) := by simp
      have tt : evT (Pr.sem n) (.val (.var 2)) [some (.pv c0), some (.ref 0), some (.pv (.lst ((y :: ys).map .str)))] [.lst true ((trT (L ++ [t])).map .pv)] = some (.ok true [.lst true ((trT (L ++ [t])).map .pv)]) := by simp [tru]
      refine (whLoop_true tt ?_).trans ih
      have hset : ([Cell.lst true ((trT (L ++ [t])).map .pv)] : Store).set 0 (.lst true ((trT (L ++ [t] ++ [u])).map .pv)) = [.lst true ((trT (L ++ [t] ++ [u])).map .pv)] := rfl
      rw [hset] at ap
      generalize trT (L ++ [t] ++ [u]) = T2 at *
      generalize trT (L ++ [t]) = T1 at *
      generalize (y :: ys).map PV.str = Y at *
      simp [bo, la, z0, k1, ap, lb, k2]
theorem ended_of {n : Nat} {t : Tm} (L : Lc t) (hn : 2 * t.funs.length + 7 ≤ n) (hf : t.funs.length ≤ 400) : ∃ u st, Pr.cal n 11 [.pv t.tree] [] = some (.ok (.pv u.tree) st) ∧ Rds t u ∧ nrT u := by
  obtain ⟨n, rfl⟩ : ∃ m, n = m + 2 := ⟨n - 2, by omega⟩
  have dt := L.dep_le
  have st := L.size_le
  obtain ⟨L', u, h1, h2, e⟩ := way_loop (n := n) (c0 := t.tree) 1000 t [] L (by omega) (by omega) hf (by simp; omega)
  obtain ⟨g2, c2⟩ := steps_at_of t n (by omega) (by omega) (by omega)
  have k2 := fun st => call1 (P := Pr) (f := 6) (st := st) rfl c2
  have hw : (Pr.sem n).wf = 1000 := rfl
  have ml : mkLst true [.pv t.tree] [] = some (.ok (.ref 0) [.lst true [.pv t.tree]]) := mkLst_live [.pv t.tree] line1
  have fz := frz_ref (st := [.lst true ((trT (L' ++ [u])).map .pv)]) (r := 0) (b := true) (ps := trT (L' ++ [u])) rfl
  have w : ∃ s1, Pr.cal (n + 1) 10 [.pv t.tree] [] = some (.ok (.pv (.lst (trT (L' ++ [u])))) s1) := by
    rw [cal_eq Pr n 10 m10 _ _ rfl rfl]
    refine ⟨[.lst false ((trT (L' ++ [u])).map .pv)], ?_⟩
    obtain ⟨T, hT⟩ : ∃ T, T = trT (L' ++ [u]) := ⟨_, rfl⟩
    have e0 : (trT ([] ++ [t])).map LV.pv = [.pv t.tree] := rfl
    rw [e0, ← hT] at e
    rw [← hT] at fz ⊢
    generalize (srtS (plc t [])).map PV.str = Y at *
    simp at fz
    simp [m10, ml, k2, hw, e, fz]
  obtain ⟨s1, w⟩ := w
  have kw := fun st => call1 (P := Pr) (f := 10) (st := st) rfl w
  refine ⟨u, [], ?_, h1, h2⟩
  rw [cal_eq Pr (n + 1) 11 m11 _ _ rfl rfl]
  have la : atI (trT (L' ++ [u])) (-1) = some u.tree := by simp only [trT, List.map_append, List.map_cons, List.map_nil]; exact atI_last _ _
  generalize trT (L' ++ [u]) = T at *
  simp [m11, kw, la]
end Z51
end

section
namespace Z51
open Z
/-! ### names put -/
theorem has_iff {κ α : Type} [DecidableEq κ] (k : κ) (kvs : List (κ × α)) : has k kvs = (look k kvs).isSome := rfl
theorem look_snoc {κ α : Type} [DecidableEq κ] (j k : κ) (v : α) : ∀ kvs : List (κ × α), look k kvs = none → look j (kvs ++ [(k, v)]) = if j = k then some v else look j kvs
  | [], _ => by
    simp only [List.nil_append, look]
    by_cases h : k = j
    · rw [if_pos h, if_pos h.symm]
    · rw [if_neg h, if_neg (fun e => h e.symm)]
  | (i, x) :: r, h => by
    simp only [look] at h
    split at h
    · cases h
    · rename_i hi
      simp only [List.cons_append, look]
      by_cases hj : i = j
      · rw [if_pos hj, if_pos hj]
        have : ¬ j = k := fun e => hi (hj.trans e)
        rw [if_neg this]
      · rw [if_neg hj, if_neg hj, look_snoc j k v r h]
theorem look_map {κ α : Type} [DecidableEq κ] (j k : κ) (v : α) : ∀ kvs : List (κ × α), (look k kvs).isSome → look j (kvs.map fun kv => if kv.1 = k then (kv.1, v) else kv) = if j = k then some v else look j kvs
  | [], h => by simp [look] at h
  | (i, x) :: r, h => by
    simp only [List.map_cons]
    by_cases hi : i = k
    · rw [if_pos hi]
      simp only [look]
      by_cases hj : i = j
      · rw [if_pos hj, if_pos (hj ▸ hi)]
      · rw [if_neg hj, if_neg hj]
        have hk : ¬ j = k := fun e => hj (hi.trans e.symm)
        rw [if_neg hk]
        have step : ∀ r : List (κ × α), look j (r.map fun kv => if kv.1 = k then (kv.1, v) else kv) = look j r := by
          intro r
          induction r with
          | nil => rfl
          | cons q r ih =>
            simp only [List.map_cons]
            by_cases hq : q.1 = k
            · rw [if_pos hq]
              simp only [look]
              rw [if_neg (fun e => hk (e.symm.trans hq)), if_neg (fun e => hk (e.symm.trans hq)), ih]
            · rw [if_neg hq]
              obtain ⟨a, b⟩ := q
              simp only [look]
              by_cases ha : a = j
              · rw [if_pos ha, if_pos ha]
              · rw [if_neg ha, if_neg ha, ih]
        exact step r
    · rw [if_neg hi]
      simp only [look, if_neg hi] at h
      simp only [look]
      by_cases hj : i = j
      · rw [if_pos hj, if_pos hj, if_neg (fun e => hi (hj.trans e))]
      · rw [if_neg hj, if_neg hj, look_map j k v r h]
theorem look_put {κ α : Type} [DecidableEq κ] (j k : κ) (v : α) (kvs : List (κ × α)) : look j (putD k v kvs) = if j = k then some v else look j kvs := by
  unfold putD
  rw [has_iff]
  split
  · rename_i h
    exact look_map j k v kvs h
  · rename_i h
    exact look_snoc j k v kvs (by simpa using h)
theorem unpvK_map {κ : Type} : ∀ kvs : List (κ × PV), unpvK (kvs.map fun q => (q.1, LV.pv q.2)) = some kvs
  | [] => rfl
  | (k, p) :: r => by simp [unpvK, unpvK_map r]
theorem putD_map (k : Ky) (v : PV) (kvs : List (Ky × PV)) : putD k (LV.pv v) (kvs.map fun q => (q.1, LV.pv q.2)) = (putD k v kvs).map fun q => (q.1, LV.pv q.2) := by
  have hl : ∀ kvs : List (Ky × PV), (look k (kvs.map fun q => (q.1, LV.pv q.2))).isSome = (look k kvs).isSome := by
    intro kvs
    induction kvs with
    | nil => rfl
    | cons q r ih =>
      obtain ⟨a, b⟩ := q
      simp only [List.map_cons, look]
      by_cases h : a = k
      · rw [if_pos h, if_pos h]; rfl
      · rw [if_neg h, if_neg h, ih]
  unfold putD
  rw [has_iff, has_iff, hl]
  split
  · rw [List.map_map, List.map_map]
    apply List.map_congr_left
    intro q _
    simp only [Function.comp]
    by_cases h : q.1 = k
    · rw [if_pos h, if_pos h]
    · rw [if_neg h, if_neg h]
  · rw [List.map_append]; rfl
theorem putD_len {κ α : Type} [DecidableEq κ] (k : κ) (v : α) (kvs : List (κ × α)) : (putD k v kvs).length ≤ kvs.length + 1 := by
  unfold putD
  split <;> simp
def dkC (kvs : List (Ky × PV)) : Cell := .dk true (kvs.map fun q => (q.1, LV.pv q.2))
structure Env (st : Store) (E : LV) (f : Sg → Sg) (k : Nat) : Prop where
  ok : ∃ kvs, peek st E = some (.dk kvs) ∧ (∀ x, (look (Sum.inr x : Ky) kvs).getD (.str x) = .str (f x)) ∧ kvs.length ≤ k
  kind : (∃ kvs, E = .pv (.dk kvs)) ∨ ∃ r kvs, E = .ref r ∧ st[r]? = some (dkC kvs)
  dks : ∀ c ∈ st, ∃ kvs, c = dkC kvs
theorem peek_dkC {st : Store} {r : Nat} {kvs : List (Ky × PV)} (h : st[r]? = some (dkC kvs)) : peek st (.ref r) = some (.dk kvs) := by
  simp only [peek, h, dkC, unpvK_map, Option.map_some]
theorem Env.get {st : Store} {E : LV} {f : Sg → Sg} {k : Nat} (e : Env st E f k) (x : Sg) : bmOk .get2 E st = true ∧ doBM .get2 E [.pv (.str x), .pv (.str x)] st = some (.ok (.pv (.str (f x))) st) := by
  obtain ⟨kvs, h1, h2, _⟩ := e.ok
  refine ⟨?_, ?_⟩
  · rcases e.kind with ⟨q, rfl⟩ | ⟨r, q, rfl, h⟩
    · rfl
    · simp only [bmOk, h, dkC]
  · simp only [doBM, h1, peek_pv, keyK, h2 x]
theorem below_dks {st : Store} (h : ∀ c ∈ st, ∃ kvs, c = dkC kvs) (n : Nat) : st.all (·.below n) = true := by
  rw [List.all_eq_true]
  intro c hc
  obtain ⟨kvs, rfl⟩ := h c hc
  have : ∀ xs : List (Ky × PV), belows n ((xs.map fun q => (q.1, LV.pv q.2)).map (·.2)) = true := by
    intro xs
    induction xs with
    | nil => rfl
    | cons q r ih => simp only [List.map_cons, belows, below, ih, Bool.and_self]
  exact this kvs
theorem call_grow {P : Prog} {n f : Nat} {vs : List LV} {p : PV} {st g : Store} (hu : unpv vs = none) (h : P.cal n f vs st = some (.ok (.pv p) (st ++ g))) (hb : st.all (·.below st.length) = true) : (P.sem n).call f vs st = some (.ok (.pv p) st) := by
  have h' : (P.sem n).cal f vs st = some (.ok (.pv p) (st ++ g)) := h
  have ht : trunc st.length (below st.length (.pv p)) (st ++ g) = st := by
    unfold trunc
    simp only [List.take_left, hb, below, Bool.and_self, if_true]
  unfold Sem.call
  rw [hu]
  cases (P.sem n).shr f <;> simp only [h', ht]
theorem call_env {n f : Nat} {t : PV} {E : LV} {k : Int} {p : PV} {st : Store} {fn : Sg → Sg} {K : Nat} (hs : Pr.shr f = false) (e : Env st E fn K) (h : ∀ st, Env st E fn K → ∃ g, Pr.cal n f [.pv t, E, .pv (.int k)] st = some (.ok (.pv p) (st ++ g))) : (Pr.sem n).call f [.pv t, E, .pv (.int k)] st = some (.ok (.pv p) st) := by
  rcases e.kind with ⟨kvs, rfl⟩ | ⟨r, kvs, rfl, hr⟩
  · obtain ⟨g, h⟩ := h [] ⟨e.ok.imp fun kvs q => ⟨q.1, q.2⟩, .inl ⟨_, rfl⟩, fun c hc => by simp at hc⟩
    have h' : (Pr.sem n).cal f [.pv t, .pv (.dk kvs), .pv (.int k)] [] = some (.ok (.pv p) ([] ++ g)) := h
    have hs' : (Pr.sem n).shr f = false := hs
    unfold Sem.call
    rw [hs']
    simp only [unpv, h', Option.map_some, frz_pv]
  · obtain ⟨g, h⟩ := h st e
    exact call_grow rfl h (below_dks e.dks _)
theorem Env.more {st : Store} {E : LV} {f : Sg → Sg} {k : Nat} (e : Env st E f k) (x : Sg) : ∃ kvs, peek st E = some (.dk kvs) ∧ kvs.length ≤ k ∧ Env (st ++ [dkC (putD (Sum.inr x) (.str (pn k)) kvs)]) (.ref st.length) (fun y => if y = x then pn k else f y) (k + 1) := by
  obtain ⟨kvs, h1, h2, h3⟩ := e.ok
  have hr : (st ++ [dkC (putD (Sum.inr x) (.str (pn k)) kvs)])[st.length]? = some (dkC (putD (Sum.inr x) (.str (pn k)) kvs)) := by simp
  refine ⟨kvs, h1, h3, ⟨_, peek_dkC hr, fun y => ?_, Nat.le_trans (putD_len _ _ _) (by omega)⟩, .inr ⟨_, _, rfl, hr⟩, fun c hc => ?_⟩
  · rw [look_put]
    by_cases h : y = x
    · subst h; simp
    · rw [if_neg (by simpa using h), if_neg h]; exact h2 y
  · rcases List.mem_append.mp hc with z | z
    · exact e.dks c z
    · exact ⟨_, List.mem_singleton.mp z⟩
theorem setI_dk {st : Store} {r : Nat} {kvs : List (Ky × PV)} (h : st[r]? = some (dkC kvs)) (x : Sg) (v : PV) (hl : kvs.length < line) : setI (.ref r) (.pv (.str x)) (.pv v) st = some (st.set r (dkC (putD (Sum.inr x) v kvs))) := by
  simp only [setI, h, dkC, keyK, List.length_map, if_pos hl, putD_map]
abbrev abc : Sg := [97, 98, 99, 100, 101, 102, 103, 104, 105, 106, 107, 108, 109, 110, 111, 112, 113, 114, 115, 116, 117, 118, 119, 120, 121, 122]
theorem abc_get (k : Nat) (h : k < 26) : doIdx (.str abc) (.int (k : Int)) = some (.str [97 + k]) := by
  have e : ∀ k < 26, abc[k]? = some (97 + k) := by decide
  rw [idx_str (by decide) (by exact h), e k h]
  rfl
theorem pn_lo {k : Nat} (h : k < 26) : pn k = [97 + k] := if_pos h
theorem pn_hi {k : Nat} (h : ¬ k < 26) : pn k = [97 + (k / 26 - 1), 97 + k % 26] := if_neg h
theorem number_of (n k : Nat) (h : k < 702) (st : Store) : (Pr.sem (n + 1)).call 0 [.pv (.int (k : Int))] st = some (.ok (.pv (.str (pn k))) st) := by
  have ln : doBI .len [.str abc] = some (.int 26) := rfl
  refine call1 (P := Pr) (st1 := []) rfl ?_
  rw [cal_eq Pr n 0 m0 _ _ rfl rfl]
  by_cases hk : k < 26
  · have ix := abc_get k hk
    have hk' : (k : Int) < 26 := by omega
    rw [pn_lo hk]
    simp [m0, ln, hk', ix]
  · have i1 := abc_get (k / 26 - 1) (by omega)
    have i2 := abc_get (k % 26) (by omega)
    have hk' : ¬ (k : Int) < 26 := by omega
    have e1 : ((k / 26 - 1 : Nat) : Int) = (k : Int) / 26 - 1 := by omega
    have e2 : ((k % 26 : Nat) : Int) = (k : Int) % 26 := by omega
    rw [e1] at i1
    rw [e2] at i2
    have d1 : doBin .fdiv (.int (k : Int)) (.int 26) = some (.int ((k : Int) / 26)) := rfl
    have d2 : doBin .mod (.int (k : Int)) (.int 26) = some (.int ((k : Int) % 26)) := rfl
    have c1 : doBin .add (.str [97 + (k / 26 - 1)]) (.str [97 + k % 26]) = some (.str [97 + (k / 26 - 1), 97 + k % 26]) := rfl
    rw [pn_hi hk]
    simp [m0, ln, hk', d1, d2, i1, i2, c1]
def nP (r : Tm × Nat) : PV := .tup [r.1.tree, .int (r.2 : Int)]
theorem named_of : ∀ (t : Tm) (n : Nat) (f : Sg → Sg) (k : Nat) (E : LV) (st : Store), t.dep + 2 ≤ n → k + t.funs.length ≤ 702 → Env st E f k → ∃ g, Pr.cal n 1 [.pv t.tree, E, .pv (.int (k : Int))] st = some (.ok (.pv (nP (nmd f k t))) (st ++ g))
  | .var x, n, f, k, E, st, h, hk, e => by
    obtain ⟨n, rfl⟩ : ∃ m, n = m + 1 := ⟨n - 1, by omega⟩
    rw [cal_eq Pr n 1 m1 _ _ rfl rfl]
    obtain ⟨b, g⟩ := e.get x
    refine ⟨[], ?_⟩
    rcases e.kind with ⟨q, rfl⟩ | ⟨r, q, rfl, hr⟩ <;> simp [m1, Tm.tree, b, g, nP, nmd]
  | .fn x b, n, f, k, E, st, h, hk, e => by
    obtain ⟨n, rfl⟩ : ∃ m, n = m + 2 := ⟨n - 2, by omega⟩
    rw [cal_eq Pr (n + 1) 1 m1 _ _ rfl rfl]
    simp only [Tm.dep] at h
    simp only [Tm.funs, List.length_cons] at hk
    have nk := number_of n k (by omega) st
    obtain ⟨kvs, h1, h2, e2⟩ := e.more x
    have hs : setI (.ref st.length) (.pv (.str x)) (.pv (.str (pn k))) (st ++ [dkC kvs]) = some (st ++ [dkC (putD (Sum.inr x) (.str (pn k)) kvs)]) := by
      rw [setI_dk (kvs := kvs) (by simp) x (.str (pn k)) (by rw [line_eq]; omega)]
      simp
    have ih := call_env (n := n + 1) (f := 1) (t := b.tree) (k := ((k + 1 : Nat) : Int)) rfl e2 (fun st e => named_of b (n + 1) _ (k + 1) _ st (by omega) (by omega) e)
    have kk : ((k + 1 : Nat) : Int) = (k : Int) + 1 := by push_cast; rfl
    rw [kk] at ih
    refine ⟨[dkC (putD (Sum.inr x) (.str (pn k)) kvs)], ?_⟩
    have hc : Cell.dk true (kvs.map fun q => (q.1, LV.pv q.2)) = dkC kvs := rfl
    simp only [nP] at ih
    rcases e.kind with ⟨q, rfl⟩ | ⟨r, q, rfl, hr⟩ <;> simp [m1, Tm.tree, nk, h1, hc, hs, ih, nP, nmd]
  | .use a b, n, f, k, E, st, h, hk, e => by
    obtain ⟨n, rfl⟩ : ∃ m, n = m + 1 := ⟨n - 1, by omega⟩
    rw [cal_eq Pr n 1 m1 _ _ rfl rfl]
    simp only [Tm.dep] at h
    simp only [Tm.funs, List.length_append] at hk
    have nn := nmd_num a f k
    have i1 := call_env (n := n) (f := 1) (t := a.tree) (k := (k : Int)) rfl e (fun st e => named_of a n f k E st (by omega) (by omega) e)
    have e2 : Env st E f (nmd f k a).2 := ⟨e.ok.imp fun kvs q => ⟨q.1, q.2.1, by omega⟩, e.kind, e.dks⟩
    have i2 := call_env (n := n) (f := 1) (t := b.tree) (k := ((nmd f k a).2 : Int)) rfl e2 (fun st e => named_of b n f (nmd f k a).2 E st (by omega) (by omega) e)
    refine ⟨[], ?_⟩
    simp only [nP] at i1 i2
    rcases e.kind with ⟨q, rfl⟩ | ⟨r, q, rfl, hr⟩ <;> simp [m1, Tm.tree, i1, i2, nP, nmd]
theorem env0 (st : Store) (h : ∀ c ∈ st, ∃ kvs, c = dkC kvs) : Env st (.pv (.dk [])) id 0 := ⟨⟨[], rfl, fun x => rfl, Nat.le_refl _⟩, .inl ⟨_, rfl⟩, h⟩
theorem plain_of (t : Tm) (n : Nat) (h : t.dep + 3 ≤ n) (hk : t.funs.length ≤ 702) : ∃ st, Pr.cal n 2 [.pv t.tree] [] = some (.ok (.pv (plain t).tree) st) := by
  obtain ⟨n, rfl⟩ : ∃ m, n = m + 1 := ⟨n - 1, by omega⟩
  rw [cal_eq Pr n 2 m2 _ _ rfl rfl]
  obtain ⟨g, hn⟩ := named_of t n id 0 (.pv (.dk [])) [] (by omega) (by omega) (env0 [] (fun c hc => by simp at hc))
  have c := fun st => call3 (P := Pr) (f := 1) (st := st) rfl hn
  have fz : frz (.ref 0) [Cell.dk true []] = some (.dk [], [Cell.dk false []]) := rfl
  refine ⟨[Cell.dk false []], ?_⟩
  simp only [nP] at c
  simp at c
  simp [m2, c, fz, plain]
/-! ### the law's plain names -/
theorem flen : ∀ t : Tm, t.funs.length ≤ t.size
  | .var _ => by simp [Tm.funs]
  | .fn _ b => by have := flen b; simp only [Tm.funs, Tm.size, List.length_cons]; omega
  | .use a b => by have := flen a; have := flen b; simp only [Tm.funs, Tm.size, List.length_append]; omega
theorem lfuns_of : ∀ (t : Tm) (n : Nat), t.dep + 1 ≤ n → t.size ≤ 100000 → Pr.cal n 33 [.pv t.tree] [] = some (.ok (.pv (.lst (t.funs.map .str))) [])
  | .var x, n, h, hs => by
    obtain ⟨n, rfl⟩ : ∃ m, n = m + 1 := ⟨n - 1, by omega⟩
    rw [cal_eq Pr n 33 m33 _ _ rfl rfl]
    simp [m33, Tm.tree, Tm.funs]
  | .fn x b, n, h, hs => by
    obtain ⟨n, rfl⟩ : ∃ m, n = m + 1 := ⟨n - 1, by omega⟩
    rw [cal_eq Pr n 33 m33 _ _ rfl rfl]
    simp only [Tm.dep] at h
    simp only [Tm.size] at hs
    have hline : line = 16777216 := rfl
    have hb := call1 (P := Pr) (f := 33) (st := []) rfl (lfuns_of b n (by omega) (by omega))
    have fl : b.funs.length ≤ b.size := flen b
    have j : doBin .add (.lst [.str x]) (.lst (b.funs.map .str)) = some (.lst ((x :: b.funs).map .str)) := cat_lst (by simp; omega)
    simp only [Tm.funs]
    generalize (x :: b.funs).map PV.str = F1 at *
    generalize b.funs.map PV.str = F2 at *
    simp [m33, Tm.tree, hb, j]
  | .use a b, n, h, hs => by
    obtain ⟨n, rfl⟩ : ∃ m, n = m + 1 := ⟨n - 1, by omega⟩
    rw [cal_eq Pr n 33 m33 _ _ rfl rfl]
    simp only [Tm.dep] at h
    simp only [Tm.size] at hs
    have hline : line = 16777216 := rfl
    have ha := call1 (P := Pr) (f := 33) (st := []) rfl (lfuns_of a n (by omega) (by omega))
    have hb := call1 (P := Pr) (f := 33) (st := []) rfl (lfuns_of b n (by omega) (by omega))
    have fa : a.funs.length ≤ a.size := flen a
    have fb : b.funs.length ≤ b.size := flen b
    have j : doBin .add (.lst (a.funs.map .str)) (.lst (b.funs.map .str)) = some (.lst ((a.funs ++ b.funs).map .str)) := by rw [cat_lst (by simp; omega), List.map_append]
    simp only [Tm.funs]
    generalize (a.funs ++ b.funs).map PV.str = F1 at *
    generalize a.funs.map PV.str = F2 at *
    generalize b.funs.map PV.str = F3 at *
    simp [m33, Tm.tree, ha, hb, j]
theorem getI_dk {st : Store} {r : Nat} {kvs : List (Ky × PV)} {x : Sg} {v : PV} (h : st[r]? = some (dkC kvs)) (hv : look (Sum.inr x : Ky) kvs = some v) : getI (.ref r) (.pv (.str x)) st = some (.ok (.pv v) st) := by
  have hl : ∀ kvs : List (Ky × PV), look (Sum.inr x : Ky) (kvs.map fun q => (q.1, LV.pv q.2)) = (look (Sum.inr x : Ky) kvs).map .pv := by
    intro kvs
    induction kvs with
    | nil => rfl
    | cons q r ih =>
      obtain ⟨a, b⟩ := q
      simp only [List.map_cons, look]
      by_cases e : a = Sum.inr x
      · rw [if_pos e, if_pos e]; rfl
      · rw [if_neg e, if_neg e, ih]
  simp only [getI, h, dkC, keyK, hl, hv, Option.map_some]
theorem lcalled_of {r : Nat} {kvs : List (Ky × PV)} {g : Sg → Sg} {st : Store} (hr : st[r]? = some (dkC kvs)) : ∀ (t : Tm) (n : Nat), t.dep + 1 ≤ n → (∀ x, x ∈ t.names ∨ x ∈ t.funs → look (Sum.inr x : Ky) kvs = some (.str (g x))) → Pr.cal n 34 [.pv t.tree, .ref r] st = some (.ok (.pv (t.ren g).tree) st)
  | .var x, n, h, hx => by
    obtain ⟨n, rfl⟩ : ∃ m, n = m + 1 := ⟨n - 1, by omega⟩
    rw [cal_eq Pr n 34 m34 _ _ rfl rfl]
    have gi := getI_dk hr (hx x (.inl (by simp [Tm.names])))
    simp [m34, Tm.tree, Tm.ren, gi]
  | .fn x b, n, h, hx => by
    obtain ⟨n, rfl⟩ : ∃ m, n = m + 1 := ⟨n - 1, by omega⟩
    rw [cal_eq Pr n 34 m34 _ _ rfl rfl]
    simp only [Tm.dep] at h
    have gi := getI_dk hr (hx x (.inr (by simp [Tm.funs])))
    have hb := call_len (P := Pr) (f := 34) (vs := [.pv b.tree, .ref r]) rfl (lcalled_of hr b n (by omega) (fun y hy => hx y (hy.imp id fun z => by simp [Tm.funs, z]))) rfl
    simp [m34, Tm.tree, Tm.ren, gi, hb]
  | .use a b, n, h, hx => by
    obtain ⟨n, rfl⟩ : ∃ m, n = m + 1 := ⟨n - 1, by omega⟩
    rw [cal_eq Pr n 34 m34 _ _ rfl rfl]
    simp only [Tm.dep] at h
    have ha := call_len (P := Pr) (f := 34) (vs := [.pv a.tree, .ref r]) rfl (lcalled_of hr a n (by omega) (fun y hy => hx y (hy.imp (fun z => by simp [Tm.names, z]) fun z => by simp [Tm.funs, z]))) rfl
    have hb := call_len (P := Pr) (f := 34) (vs := [.pv b.tree, .ref r]) rfl (lcalled_of hr b n (by omega) (fun y hy => hx y (hy.imp (fun z => by simp [Tm.names, z]) fun z => by simp [Tm.funs, z]))) rfl
    simp [m34, Tm.tree, Tm.ren, ha, hb]
def putNs : Nat → List Sg → List (Ky × PV) → List (Ky × PV)
  | _, [], kvs => kvs
  | k, x :: xs, kvs => putNs (k + 1) xs (putD (Sum.inr x) (.str (pn k)) kvs)
theorem putNs_out : ∀ (xs : List Sg) (k : Nat) (kvs : List (Ky × PV)) (y : Sg), y ∉ xs → look (Sum.inr y : Ky) (putNs k xs kvs) = look (Sum.inr y : Ky) kvs
  | [], _, _, _, _ => rfl
  | x :: xs, k, kvs, y, h => by
    simp only [putNs]
    rw [putNs_out xs (k + 1) _ y (fun z => h (by simp [z])), look_put, if_neg]
    intro e
    exact h (by simp [Sum.inr.inj e])
theorem putNs_in : ∀ (xs : List Sg) (k : Nat) (kvs : List (Ky × PV)) (i : Nat) (y : Sg), (∀ z, cn z xs ≤ 1) → xs[i]? = some y → look (Sum.inr y : Ky) (putNs k xs kvs) = some (.str (pn (k + i)))
  | [], _, _, _, _, _, h => by simp at h
  | x :: xs, k, kvs, 0, y, hn, h => by
    simp only [List.getElem?_cons_zero, Option.some.injEq] at h
    subst h
    have h0 := hn x
    rw [cn_cons, if_pos rfl] at h0
    simp only [putNs]
    rw [putNs_out xs (k + 1) _ x (cn_zero.mp (by omega)), look_put, if_pos rfl]
    rfl
  | x :: xs, k, kvs, i + 1, y, hn, h => by
    simp only [List.getElem?_cons_succ] at h
    simp only [putNs]
    rw [putNs_in xs (k + 1) _ i y (fun z => by have := hn z; rw [cn_cons] at this; omega) h, show k + 1 + i = k + (i + 1) by omega]
theorem putNs_len : ∀ (xs : List Sg) (k : Nat) (kvs : List (Ky × PV)), (putNs k xs kvs).length ≤ kvs.length + xs.length
  | [], _, _ => Nat.le_refl _
  | x :: xs, k, kvs => by
    have := putNs_len xs (k + 1) (putD (Sum.inr x) (.str (pn k)) kvs)
    have := putD_len (Sum.inr x : Ky) (PV.str (pn k)) kvs
    simp only [putNs, List.length_cons]
    omega
abbrev lpB : List MS := [.asg (.nm 4) (.idx (.lit (.str [97, 98, 99, 100, 101, 102, 103, 104, 105, 106, 107, 108, 109, 110, 111, 112, 113, 114, 115, 116, 117, 118, 119, 120, 121, 122])) (.bin .mod (.bi .int [.var 3]) (.lit (.int 26)))), .iff (.cmp .gt (.var 3) (.lit (.int 25))) [.asg (.nm 4) (.bin .add (.idx (.lit (.str [97, 98, 99, 100, 101, 102, 103, 104, 105, 106, 107, 108, 109, 110, 111, 112, 113, 114, 115, 116, 117, 118, 119, 120, 121, 122])) (.bin .sub (.bin .fdiv (.var 3) (.lit (.int 26))) (.lit (.int 1)))) (.var 4))] [], .asgI (.var 2) (.idx (.var 1) (.var 3)) (.var 4)]
theorem lp_loop {S : Sem} {t : PV} {xs : List Sg} (hl : xs.length < 700) : ∀ (suf pre : List Sg) (kvs : List (Ky × PV)) (a3 a4 : Option LV), xs = pre ++ suf → kvs.length ≤ pre.length → ∃ b3 b4, forLoop (forStep S (.nm 3) lpB) ((upto (pre.length : Nat) suf.length).map .int) [some (.pv t), some (.pv (.lst (xs.map .str))), some (.ref 0), a3, a4] [dkC kvs] =
    some (.nx [some (.pv t), some (.pv (.lst (xs.map .str))), some (.ref 0), b3, b4] [dkC (putNs pre.length suf kvs)])
  | [], pre, kvs, a3, a4, _, _ => ⟨a3, a4, rfl⟩
  | x :: suf, pre, kvs, a3, a4, e, hk => by
    have hp : pre.length + (suf.length + 1) = xs.length := by rw [e]; simp
    obtain ⟨k, hkk⟩ : ∃ k, k = pre.length := ⟨_, rfl⟩
    obtain ⟨b3, b4, ih⟩ := lp_loop (S := S) (t := t) hl suf (pre ++ [x]) (putD (Sum.inr x) (.str (pn k)) kvs) (some (.pv (.int (pre.length : Nat)))) (some (.pv (.str (pn k)))) (by rw [e]; simp) (by have := putD_len (Sum.inr x : Ky) (PV.str (pn k)) kvs; simp; omega)
    refine ⟨b3, b4, ?_⟩
    have eu : upto (pre.length : Nat) (x :: suf).length = (pre.length : Int) :: upto ((pre.length : Int) + 1) suf.length := rfl
    rw [eu, List.map_cons, forLoop_cons]
    have el : (((pre ++ [x]).length : Nat) : Int) = (pre.length : Int) + 1 := by simp
    have el2 : (pre ++ [x]).length = pre.length + 1 := by simp
    rw [el, el2] at ih
    have ix : atI (xs.map PV.str) (pre.length : Int) = some (.str x) := by
      rw [atI_nat (by rw [List.length_map]; omega), e]
      simp
    have hline : line = 16777216 := rfl
    have hs := setI_dk (st := [dkC kvs]) (r := 0) (kvs := kvs) rfl x (.str (pn k)) (by omega)
    have hs' : ([dkC kvs] : Store).set 0 (dkC (putD (Sum.inr x) (.str (pn k)) kvs)) = [dkC (putD (Sum.inr x) (.str (pn k)) kvs)] := rfl
    rw [hs'] at hs
    have bi : ∀ i : Int, doBI .int [.int i] = some (.int i) := fun _ => rfl
    simp only [putNs]
    rw [← hkk] at ih ix eu ⊢
    have s1 : forStep S (.nm 3) lpB (.int (k : Int)) [some (.pv t), some (.pv (.lst (xs.map .str))), some (.ref 0), a3, a4] [dkC kvs] = some (.nx [some (.pv t), some (.pv (.lst (xs.map .str))), some (.ref 0), some (.pv (.int (k : Nat))), some (.pv (.str (pn k)))] [dkC (putD (Sum.inr x) (.str (pn k)) kvs)]) := by
      generalize dkC (putD (Sum.inr x) (.str (pn k)) kvs) = C2 at *
      generalize dkC kvs = C1 at *
      generalize xs.map PV.str = X at *
      have i2 := abc_get (k % 26) (by omega)
      have e2 : ((k % 26 : Nat) : Int) = (k : Int) % 26 := by omega
      rw [e2] at i2
      have d2 : doBin .mod (.int (k : Int)) (.int 26) = some (.int ((k : Int) % 26)) := rfl
      by_cases hk26 : k < 26
      · have hk' : ¬ (25 : Int) < (k : Int) := by omega
        have em : k % 26 = k := by omega
        rw [pn_lo hk26] at hs ⊢
        rw [em] at i2
        simp [forStep, bi, d2, i2, hk', ix, hs]
      · have hk' : (25 : Int) < (k : Int) := by omega
        have i1 := abc_get (k / 26 - 1) (by omega)
        have e1 : ((k / 26 - 1 : Nat) : Int) = (k : Int) / 26 - 1 := by omega
        rw [e1] at i1
        have d1 : doBin .fdiv (.int (k : Int)) (.int 26) = some (.int ((k : Int) / 26)) := rfl
        have c1 : doBin .add (.str [97 + (k / 26 - 1)]) (.str [97 + k % 26]) = some (.str [97 + (k / 26 - 1), 97 + k % 26]) := rfl
        rw [pn_hi hk26] at hs ⊢
        simp [forStep, bi, d2, i2, hk', d1, i1, c1, ix, hs]
    rw [s1]
    exact ih
theorem lplain_of (t : Tm) (n : Nat) (h : t.dep + 3 ≤ n) (L : Ln [] t) (hk : t.funs.length < 700) (hz : t.size ≤ 100000) : ∃ st, Pr.cal n 32 [.pv t.tree] [] = some (.ok (.pv (plain t).tree) st) := by
  obtain ⟨n, rfl⟩ : ∃ m, n = m + 1 := ⟨n - 1, by omega⟩
  rw [cal_eq Pr n 32 m32 _ _ rfl rfl]
  have lf := call1 (P := Pr) (f := 33) (st := []) rfl (lfuns_of t n (by omega) hz)
  obtain ⟨b3, b4, lp⟩ := lp_loop (S := Pr.sem n) (t := t.tree) hk t.funs [] [] none none rfl (Nat.le_refl _)
  have hline : line = 16777216 := rfl
  have fv := forV_upto (n := t.funs.length) (by omega) (forStep (Pr.sem n) (.nm 3) lpB) [some (.pv t.tree), some (.pv (.lst (t.funs.map .str))), some (.ref 0), none, none] [dkC []]
  rw [show ((([] : List Sg).length : Nat) : Int) = 0 from rfl] at lp
  rw [lp] at fv
  -- names found
  let g : Sg → Sg := fun x => pn (t.funs.idxOf x)
  have hg : ∀ x, x ∈ t.names ∨ x ∈ t.funs → look (Sum.inr x : Ky) (putNs 0 t.funs []) = some (.str (g x)) := by
    intro x hx
    have hm : x ∈ t.funs := by
      rcases hx with z | z
      · rcases names_mem t [] L.cl x z with q | q
        · simp at q
        · exact q
      · exact z
    have := putNs_in t.funs 0 [] (t.funs.idxOf x) x L.fd (by rw [List.getElem?_eq_getElem (List.idxOf_lt_length_iff.mpr hm), List.getElem_idxOf])
    rw [Nat.zero_add] at this
    exact this
  have ep : t.ren g = plain t := by
    unfold plain
    refine (nmd_ren t id 0 [] L.cl (fun x hx => by simp at hx) fun i x hx => ?_).symm
    have hi := (List.getElem?_eq_some_iff.mp hx).1
    have he := (List.getElem?_eq_some_iff.mp hx).2
    have nd : t.funs.Nodup := by
      rw [List.nodup_iff_count]
      exact L.fd
    show pn (t.funs.idxOf x) = pn (0 + i)
    rw [← he, nd.idxOf_getElem i hi, Nat.zero_add]
  have lc := call_len (P := Pr) (n := n) (f := 34) (vs := [.pv t.tree, .ref 0]) rfl (lcalled_of (r := 0) (kvs := putNs 0 t.funs []) (g := g) (st := [dkC (putNs 0 t.funs [])]) rfl t n (by omega) hg) rfl
  rw [ep] at lc
  refine ⟨[dkC (putNs 0 t.funs [])], ?_⟩
  have d0 : Cell.dk true [] = dkC [] := rfl
  rw [List.length_nil] at fv
  generalize dkC (putNs 0 t.funs []) = C2 at *
  generalize hF : t.funs.map PV.str = F at *
  have hfl : doBI .len [.lst F] = some (.int (t.funs.length : Nat)) := by rw [← hF]; simp
  simp [-len_lst, m32, lf, hfl, d0] at fv ⊢
  simp [-len_lst, fv, lc]
end Z51
end

section
namespace Z51
open Z
/-! ### the law's own steps of terms, inner ones first -/
theorem lput_of (x : Sg) (c : Tm) : ∀ (t : Tm) (n : Nat), t.dep ≤ n → Pr.cal n 29 [.pv t.tree, .pv (.str x), .pv c.tree] [] = some (.ok (.pv (put x c t).tree) [])
  | .var y, n, h => by
    obtain ⟨n, rfl⟩ : ∃ m, n = m + 1 := ⟨n - 1, by simp only [Tm.dep] at h; omega⟩
    rw [cal_eq Pr n 29 m29 _ _ rfl rfl]
    have e := eq_str y x
    have i0 : doBI .int [.bl false] = some (.int 0) := rfl
    have i1 : doBI .int [.bl true] = some (.int 1) := rfl
    by_cases hy : y = x
    · subst hy; simp [m29, Tm.tree, put, e, i1]
    · simp [m29, Tm.tree, put, e, hy, i0]
  | .fn y b, n, h => by
    obtain ⟨n, rfl⟩ : ∃ m, n = m + 1 := ⟨n - 1, by simp only [Tm.dep] at h; omega⟩
    rw [cal_eq Pr n 29 m29 _ _ rfl rfl]
    simp only [Tm.dep] at h
    have hb := call3 (P := Pr) (f := 29) (st := []) rfl (lput_of x c b n (by omega))
    simp [m29, Tm.tree, put, hb]
  | .use a b, n, h => by
    obtain ⟨n, rfl⟩ : ∃ m, n = m + 1 := ⟨n - 1, by simp only [Tm.dep] at h; omega⟩
    rw [cal_eq Pr n 29 m29 _ _ rfl rfl]
    simp only [Tm.dep] at h
    have ha := call3 (P := Pr) (f := 29) (st := []) rfl (lput_of x c a n (by omega))
    have hb := call3 (P := Pr) (f := 29) (st := []) rfl (lput_of x c b n (by omega))
    simp [m29, Tm.tree, put, ha, hb]
def lred : Tm → Option Tm
  | .var _ => none
  | .fn x b => (lred b).map (.fn x)
  | .use a b => match lred b with
    | some b' => some (.use a b')
    | none => match lred a with
      | some a' => some (.use a' b)
      | none => match a with
        | .fn x c => some (put x b c)
        | _ => none
theorem lred_rd : ∀ (t u : Tm), lred t = some u → Rd t u
  | .var _, u, h => by simp [lred] at h
  | .fn x b, u, h => by
    simp only [lred, Option.map_eq_some_iff] at h
    obtain ⟨v, h1, h2⟩ := h
    subst h2
    exact .fn x (lred_rd b v h1)
  | .use a b, u, h => by
    unfold lred at h
    cases e : lred b with
    | some b' =>
      rw [e] at h
      cases h
      exact .r a (lred_rd b b' e)
    | none =>
      rw [e] at h
      simp only at h
      cases e2 : lred a with
      | some a' =>
        rw [e2] at h
        cases h
        exact .l b (lred_rd a a' e2)
      | none =>
        rw [e2] at h
        cases a with
        | fn x c => cases h; exact .beta x c b
        | var x => cases h
        | use x y => cases h
theorem lred_nrT : ∀ t : Tm, lred t = none → nrT t
  | .var _, _ => trivial
  | .fn x b, h => lred_nrT b (by simpa [lred] using h)
  | .use a b, h => by
    unfold lred at h
    cases e : lred b with
    | some b' => rw [e] at h; cases h
    | none =>
      rw [e] at h
      simp only at h
      have nb := lred_nrT b e
      cases e2 : lred a with
      | some a' => rw [e2] at h; cases h
      | none =>
        rw [e2] at h
        have na := lred_nrT a e2
        cases a with
        | fn x c => cases h
        | var x => exact nb
        | use x y => exact ⟨na, nb⟩
def optT : Option Tm → PV
  | some t => t.tree
  | none => .non
section
variable {S : Sem} {φ : Slots} {st : Store} {i : Nat}
theorem isnT_t {t : Tm} (b : Bool) (h : φ[i]? = some (some (.pv t.tree))) : evT S (.isn b (.var i)) φ st = some (.ok b st) := by
  cases t <;> simp [h, Tm.tree]
end
theorem lred_of : ∀ (t : Tm) (n : Nat), t.dep + 1 ≤ n → Pr.cal n 30 [.pv t.tree] [] = some (.ok (.pv (optT (lred t))) [])
  | .var x, n, h => by
    obtain ⟨n, rfl⟩ : ∃ m, n = m + 1 := ⟨n - 1, by omega⟩
    rw [cal_eq Pr n 30 m30 _ _ rfl rfl]
    simp [m30, Tm.tree, lred, optT]
  | .fn x b, n, h => by
    obtain ⟨n, rfl⟩ : ∃ m, n = m + 1 := ⟨n - 1, by omega⟩
    rw [cal_eq Pr n 30 m30 _ _ rfl rfl]
    simp only [Tm.dep] at h
    have hb := call1 (P := Pr) (f := 30) (st := []) rfl (lred_of b n (by omega))
    cases e : lred b with
    | none =>
      rw [e] at hb
      simp only [optT] at hb
      simp [m30, Tm.tree, lred, optT, e, hb]
    | some u =>
      rw [e] at hb
      have it := isnT_t (S := Pr.sem n) (st := []) (i := 2) (t := u) false (φ := [some (.pv (Tm.fn x b).tree), none, some (.pv u.tree)]) rfl
      simp only [optT] at hb
      simp only [Tm.tree] at it
      simp [-evT_isn, m30, Tm.tree, lred, optT, e, hb, it]
  | .use a b, n, h => by
    obtain ⟨n, rfl⟩ : ∃ m, n = m + 1 := ⟨n - 1, by omega⟩
    rw [cal_eq Pr n 30 m30 _ _ rfl rfl]
    simp only [Tm.dep] at h
    have ha := call1 (P := Pr) (f := 30) (st := []) rfl (lred_of a n (by omega))
    have hb := call1 (P := Pr) (f := 30) (st := []) rfl (lred_of b n (by omega))
    have hbody : m30.body = [.iff (.cmp .eq (.idx (.var 0) (.lit (.int 0))) (.lit (.str [118, 97, 114]))) [.ret (.lit (.non))] [], .iff (.cmp .eq (.idx (.var 0) (.lit (.int 0))) (.lit (.str [102, 117, 110]))) [.asg (.nm 2) (.call 30 [.idx (.var 0) (.lit (.int 2))]), .iff (.isn false (.var 2)) [.ret (.lit (.non))] [], .ret (.tup [.lit (.str [102, 117, 110]), .idx (.var 0) (.lit (.int 1)), .var 2])] [], .for_ (.nm 1) .val [.lst false [.lit (.int 2), .lit (.int 1)]] [.asg (.nm 2) (.call 30 [.idx (.var 0) (.var 1)]), .iff (.isn true (.var 2)) [.ret (.idx (.lst false [.tup [.lit (.str [117, 115, 101]), .var 2, .idx (.var 0) (.lit (.int 2))], .tup [.lit (.str [117, 115, 101]), .idx (.var 0) (.lit (.int 1)), .var 2]]) (.bin .sub (.var 1) (.lit (.int 1))))] []], .iff (.cmp .eq (.idx (.idx (.var 0) (.lit (.int 1))) (.lit (.int 0))) (.lit (.str [102, 117, 110]))) [.ret (.call 29 [.idx (.idx (.var 0) (.lit (.int 1))) (.lit (.int 2)), .idx (.idx (.var 0) (.lit (.int 1))) (.lit (.int 1)), .idx (.var 0) (.lit (.int 2))])] [], .ret (.lit (.non))] := rfl
    have sl0 : ([LV.pv (Tm.use a b).tree].map some ++ List.replicate (m30.nn - m30.ar) none : Slots) = [some (.pv (Tm.use a b).tree), none, none] := rfl
    have s0 : exS (Pr.sem n) (.iff (.cmp .eq (.idx (.var 0) (.lit (.int 0))) (.lit (.str [118, 97, 114]))) [.ret (.lit (.non))] []) [some (.pv (Tm.use a b).tree), none, none] [] = some (.nx [some (.pv (Tm.use a b).tree), none, none] []) := by simp [Tm.tree]
    have s1 : exS (Pr.sem n) (.iff (.cmp .eq (.idx (.var 0) (.lit (.int 0))) (.lit (.str [102, 117, 110]))) [.asg (.nm 2) (.call 30 [.idx (.var 0) (.lit (.int 2))]), .iff (.isn false (.var 2)) [.ret (.lit (.non))] [], .ret (.tup [.lit (.str [102, 117, 110]), .idx (.var 0) (.lit (.int 1)), .var 2])] []) [some (.pv (Tm.use a b).tree), none, none] [] = some (.nx [some (.pv (Tm.use a b).tree), none, none] []) := by simp [Tm.tree]
    have ev : evEs (Pr.sem n) [.lst false [.lit (.int 2), .lit (.int 1)]] [some (.pv (Tm.use a b).tree), none, none] [] = some (.ok [.pv (.lst [.int 2, .int 1])] []) := by simp
    rw [hbody, sl0, exSs_cons, s0, seqS_nx, exSs_cons, s1, seqS_nx, exSs_cons, exS_for, ev, Rs.bf_ok, forV_lst]
    cases e : lred b with
    | some u =>
      rw [e] at hb
      simp only [optT] at hb
      have it := isnT_t (S := Pr.sem n) (st := []) (i := 2) (t := u) true (φ := [some (.pv (Tm.use a b).tree), some (.pv (.int 2)), some (.pv u.tree)]) rfl
      have f2 : forStep (Pr.sem n) (.nm 1) [.asg (.nm 2) (.call 30 [.idx (.var 0) (.var 1)]), .iff (.isn true (.var 2)) [.ret (.idx (.lst false [.tup [.lit (.str [117, 115, 101]), .var 2, .idx (.var 0) (.lit (.int 2))], .tup [.lit (.str [117, 115, 101]), .idx (.var 0) (.lit (.int 1)), .var 2]]) (.bin .sub (.var 1) (.lit (.int 1))))] []] (.int 2) [some (.pv (Tm.use a b).tree), none, none] [] = some (.rt (.pv (Tm.use a u).tree) []) := by
        simp only [Tm.tree] at it ⊢
        simp [-evT_isn, forStep, hb, it]
      rw [forLoop_cons, f2]
      simp [lred, e, optT]
    | none =>
      rw [e] at hb
      simp only [optT] at hb
      have f2 : forStep (Pr.sem n) (.nm 1) [.asg (.nm 2) (.call 30 [.idx (.var 0) (.var 1)]), .iff (.isn true (.var 2)) [.ret (.idx (.lst false [.tup [.lit (.str [117, 115, 101]), .var 2, .idx (.var 0) (.lit (.int 2))], .tup [.lit (.str [117, 115, 101]), .idx (.var 0) (.lit (.int 1)), .var 2]]) (.bin .sub (.var 1) (.lit (.int 1))))] []] (.int 2) [some (.pv (Tm.use a b).tree), none, none] [] = some (.nx [some (.pv (Tm.use a b).tree), some (.pv (.int 2)), some (.pv .non)] []) := by
        simp [forStep, hb, Tm.tree]
      rw [forLoop_cons, f2]
      simp only
      cases e2 : lred a with
      | some u =>
        rw [e2] at ha
        simp only [optT] at ha
        have it := isnT_t (S := Pr.sem n) (st := []) (i := 2) (t := u) true (φ := [some (.pv (Tm.use a b).tree), some (.pv (.int 1)), some (.pv u.tree)]) rfl
        have f1 : forStep (Pr.sem n) (.nm 1) [.asg (.nm 2) (.call 30 [.idx (.var 0) (.var 1)]), .iff (.isn true (.var 2)) [.ret (.idx (.lst false [.tup [.lit (.str [117, 115, 101]), .var 2, .idx (.var 0) (.lit (.int 2))], .tup [.lit (.str [117, 115, 101]), .idx (.var 0) (.lit (.int 1)), .var 2]]) (.bin .sub (.var 1) (.lit (.int 1))))] []] (.int 1) [some (.pv (Tm.use a b).tree), some (.pv (.int 2)), some (.pv .non)] [] = some (.rt (.pv (Tm.use u b).tree) []) := by
          simp only [Tm.tree] at it ⊢
          simp [-evT_isn, forStep, ha, it]
        rw [forLoop_cons, f1]
        simp [lred, e, e2, optT]
      | none =>
        rw [e2] at ha
        simp only [optT] at ha
        have f1 : forStep (Pr.sem n) (.nm 1) [.asg (.nm 2) (.call 30 [.idx (.var 0) (.var 1)]), .iff (.isn true (.var 2)) [.ret (.idx (.lst false [.tup [.lit (.str [117, 115, 101]), .var 2, .idx (.var 0) (.lit (.int 2))], .tup [.lit (.str [117, 115, 101]), .idx (.var 0) (.lit (.int 1)), .var 2]]) (.bin .sub (.var 1) (.lit (.int 1))))] []] (.int 1) [some (.pv (Tm.use a b).tree), some (.pv (.int 2)), some (.pv .non)] [] = some (.nx [some (.pv (Tm.use a b).tree), some (.pv (.int 1)), some (.pv .non)] []) := by
          simp [forStep, ha, Tm.tree]
        rw [forLoop_cons, f1]
        simp only [forLoop_nil, seqS_nx]
        cases a with
        | fn x c =>
          have pc := call3 (P := Pr) (f := 29) (st := []) rfl (lput_of x b c n (by simp only [Tm.dep] at h; omega))
          have el : lred (.use (.fn x c) b) = some (put x b c) := by
            unfold lred
            rw [e]
            simp only
            rw [e2]
          rw [el]
          simp [optT, Tm.tree, pc]
        | var x => simp [lred, e, optT, Tm.tree]
        | use x y =>
          have el : lred (.use (.use x y) b) = none := by
            unfold lred
            rw [e]
            simp only
            rw [e2]
          rw [el]
          simp [optT, Tm.tree]
theorem last_loop {n : Nat} : ∀ (xs : List PV) (t : Tm) (a2 a3 : Option LV) (c0 : PV), Lc t → t.funs.length < xs.length → 2 * t.funs.length + 2 ≤ n → ∃ u, Rds t u ∧ nrT u ∧ forLoop (forStep (Pr.sem n) (.nm 2) [.asg (.nm 3) (.call 30 [.var 1]), .iff (.isn false (.var 3)) [.ret (.var 1)] [], .asg (.nm 1) (.var 3)]) xs [some (.pv c0), some (.pv t.tree), a2, a3] [] = some (.rt (.pv u.tree) [])
  | [], t, _, _, _, _, h, _ => by simp at h
  | x :: xs, t, a2, a3, c0, L, h, hn => by
    have dt := L.dep_le
    have rc := fun st => call1 (P := Pr) (f := 30) (st := st) rfl (lred_of t n (by omega))
    rw [forLoop_cons]
    cases e : lred t with
    | none =>
      refine ⟨t, .refl t, lred_nrT t e, ?_⟩
      rw [e] at rc
      simp only [optT] at rc
      have s1 : forStep (Pr.sem n) (.nm 2) [.asg (.nm 3) (.call 30 [.var 1]), .iff (.isn false (.var 3)) [.ret (.var 1)] [], .asg (.nm 1) (.var 3)] x [some (.pv c0), some (.pv t.tree), a2, a3] [] = some (.rt (.pv t.tree) []) := by simp [forStep, rc]
      rw [s1]
    | some v =>
      have hr := lred_rd t v e
      have A := hr.ok L.ln
      have fl := A.fl
      simp only [List.length_cons] at h
      obtain ⟨u, h1, h2, ih⟩ := last_loop (n := n) xs v (some (.pv x)) (some (.pv v.tree)) c0 (L.rd hr) (by omega) (by omega)
      refine ⟨u, .step hr h1, h2, ?_⟩
      rw [e] at rc
      simp only [optT] at rc
      have it := isnT_t (S := Pr.sem n) (st := []) (i := 3) (t := v) false (φ := [some (.pv c0), some (.pv t.tree), some (.pv x), some (.pv v.tree)]) rfl
      have s1 : forStep (Pr.sem n) (.nm 2) [.asg (.nm 3) (.call 30 [.var 1]), .iff (.isn false (.var 3)) [.ret (.var 1)] [], .asg (.nm 1) (.var 3)] x [some (.pv c0), some (.pv t.tree), a2, a3] [] = some (.nx [some (.pv c0), some (.pv v.tree), some (.pv x), some (.pv v.tree)] []) := by simp [-evT_isn, forStep, rc, it]
      rw [s1]
      exact ih
theorem llast_of {n : Nat} {t : Tm} (L : Lc t) (hn : 2 * t.funs.length + 3 ≤ n) (hf : t.funs.length < 400) : ∃ u, Pr.cal n 31 [.pv t.tree] [] = some (.ok (.pv u.tree) []) ∧ Rds t u ∧ nrT u := by
  obtain ⟨n, rfl⟩ : ∃ m, n = m + 1 := ⟨n - 1, by omega⟩
  rw [cal_eq Pr n 31 m31 _ _ rfl rfl]
  obtain ⟨u, h1, h2, e⟩ := last_loop (n := n) ((upto 0 400).map .int) t none none t.tree L (by rw [List.length_map, upto_length]; omega) (by omega)
  refine ⟨u, ?_, h1, h2⟩
  have fv := forV_upto (n := 400) (by decide) (forStep (Pr.sem n) (.nm 2) [.asg (.nm 3) (.call 30 [.var 1]), .iff (.isn false (.var 3)) [.ret (.var 1)] [], .asg (.nm 1) (.var 3)]) [some (.pv t.tree), some (.pv t.tree), none, none] []
  rw [e] at fv
  simp [m31] at fv ⊢
  simp [fv]
end Z51
end

section
namespace Z51
open Z
/-! ### codes: the joiner at the left end, its arguments -/
def Cd.put (c : Cd) (xs : List Cd) : Cd := xs.foldl .node c
theorem put_app (c : Cd) (xs ys : List Cd) : c.put (xs ++ ys) = (c.put xs).put ys := List.foldl_append ..
@[simp] theorem put_nil (c : Cd) : c.put [] = c := rfl
theorem put_cons (c x : Cd) (xs : List Cd) : c.put (x :: xs) = (Cd.node c x).put xs := rfl
def spn : Cd → List Cd → Nat × List Cd
  | .leaf c, r => (c, r)
  | .node a b, r => spn a (b :: r)
theorem spn_put : ∀ (xs : List Cd) (c : Cd) (r : List Cd), spn (c.put xs) r = spn c (xs ++ r)
  | [], _, _ => rfl
  | x :: xs, c, r => by
    rw [put_cons, spn_put xs]
    rfl
theorem put_spn : ∀ (c : Cd) (r : List Cd), (Cd.leaf (spn c r).1).put (spn c r).2 = c.put r
  | .leaf _, _ => rfl
  | .node a b, r => by
    simp only [spn]
    rw [put_spn a (b :: r)]
    rfl
def sumM (xs : List Cd) : Nat := (xs.map Cd.many).sum
@[simp] theorem sumM_nil : sumM [] = 0 := rfl
@[simp] theorem sumM_cons (x : Cd) (xs : List Cd) : sumM (x :: xs) = x.many + sumM xs := by simp [sumM]
@[simp] theorem sumM_app (xs ys : List Cd) : sumM (xs ++ ys) = sumM xs + sumM ys := by simp [sumM]
theorem put_many : ∀ (xs : List Cd) (c : Cd), (c.put xs).many = c.many + sumM xs
  | [], _ => rfl
  | x :: xs, c => by
    rw [put_cons, put_many xs]
    simp only [Cd.many, sumM_cons]
    omega
theorem spn_many (c : Cd) (r : List Cd) : c.many + sumM r = 1 + sumM (spn c r).2 := by
  have := congrArg Cd.many (put_spn c r)
  rw [put_many, put_many] at this
  simp only [Cd.many] at this
  omega
theorem sumM_mem {x : Cd} {xs : List Cd} (h : x ∈ xs) : x.many ≤ sumM xs := by
  obtain ⟨a, b, e⟩ := List.append_of_mem h
  rw [e]
  simp only [sumM_app, sumM_cons]
  omega
theorem many_pos (c : Cd) : 1 ≤ c.many := by have := c.dep_many; omega
theorem len_sumM (xs : List Cd) : xs.length ≤ sumM xs := by
  induction xs with
  | nil => exact Nat.le_refl _
  | cons x xs ih =>
    have := many_pos x
    simp only [List.length_cons, sumM_cons]
    omega
theorem put_good : ∀ (xs : List Cd) (c : Cd), (c.put xs).good ↔ c.good ∧ allGood xs
  | [], c => by simp [allGood]
  | x :: xs, c => by
    rw [put_cons, put_good xs]
    simp only [Cd.good, allGood, List.mem_cons, forall_eq_or_imp]
    exact and_assoc
/-! ### a step -/
def need (c : Nat) : Nat := if c = 73 then 1 else 3
def jn (c : Nat) (xs : List Cd) : Cd := match xs with
  | [] => .leaf 66
  | f :: r => if c = 73 then f else match r with
    | x :: y :: _ => if c = 66 then .node f (.node x y) else .node (.node f y) x
    | _ => .leaf 66
def first (f : Cd → Option Cd) : List Cd → Option (List Cd)
  | [] => none
  | x :: r => match f x with
    | some y => some (y :: r)
    | none => (first f r).map (x :: ·)
def cst : Nat → Cd → Option Cd
  | 0, _ => none
  | n + 1, c => if need (spn c []).1 ≤ (spn c []).2.length then some ((jn (spn c []).1 (spn c []).2).put ((spn c []).2.drop (need (spn c []).1)))
    else (first (cst n) (spn c []).2).map (Cd.leaf (spn c []).1).put
theorem first_congr {f g : Cd → Option Cd} : ∀ {xs : List Cd}, (∀ x ∈ xs, f x = g x) → first f xs = first g xs
  | [], _ => rfl
  | x :: xs, h => by
    simp only [first]
    rw [h x (by simp), first_congr (fun y hy => h y (by simp [hy]))]
theorem cst_fuel : ∀ (n m : Nat) (c : Cd), c.many ≤ n → c.many ≤ m → cst n c = cst m c
  | 0, _, c, h, _ => by have := many_pos c; omega
  | _ + 1, 0, c, _, h => by have := many_pos c; omega
  | n + 1, m + 1, c, h1, h2 => by
    unfold cst
    split
    · rfl
    · congr 1
      apply first_congr
      intro x hx
      have a := sumM_mem hx
      have b := spn_many c []
      simp only [sumM_nil] at b
      exact cst_fuel n m x (by omega) (by omega)
def step (c : Cd) : Option Cd := cst c.many c
theorem step_eq (c : Cd) : step c = if need (spn c []).1 ≤ (spn c []).2.length then some ((jn (spn c []).1 (spn c []).2).put ((spn c []).2.drop (need (spn c []).1)))
    else (first step (spn c []).2).map (Cd.leaf (spn c []).1).put := by
  have b := spn_many c []
  simp only [sumM_nil] at b
  unfold step
  obtain ⟨n, hn⟩ : ∃ n, c.many = n + 1 := ⟨c.many - 1, by have := many_pos c; omega⟩
  rw [hn]
  conv => lhs; unfold cst
  split
  · rfl
  · congr 1
    apply first_congr
    intro x hx
    have a := sumM_mem hx
    exact cst_fuel n x.many x (by omega) (Nat.le_refl _)
/-- what a joiner does with its arguments -/
theorem step_put (h : Nat) (xs : List Cd) : step ((Cd.leaf h).put xs) = if need h ≤ xs.length then some ((jn h xs).put (xs.drop (need h))) else (first step xs).map (Cd.leaf h).put := by
  have e : spn ((Cd.leaf h).put xs) [] = (h, xs) := by rw [spn_put]; simp [spn]
  rw [step_eq, e]
theorem first_none {f : Cd → Option Cd} : ∀ {xs : List Cd}, first f xs = none ↔ ∀ x ∈ xs, f x = none
  | [] => by simp [first]
  | x :: xs => by
    simp only [first, List.mem_cons, forall_eq_or_imp]
    cases h : f x with
    | some y => simp
    | none => simp [first_none (xs := xs)]
theorem first_mid {f : Cd → Option Cd} {c c' : Cd} (h : f c = some c') (r : List Cd) : ∀ {xs : List Cd}, (∀ x ∈ xs, f x = none) → first f (xs ++ c :: r) = some (xs ++ c' :: r)
  | [], _ => by simp [first, h]
  | x :: xs, hx => by
    simp only [List.cons_append, first]
    rw [hx x (by simp), first_mid h r (fun y hy => hx y (by simp [hy]))]
    rfl
theorem first_some {f : Cd → Option Cd} : ∀ {xs ys : List Cd}, first f xs = some ys → ∃ a c c' b, xs = a ++ c :: b ∧ ys = a ++ c' :: b ∧ f c = some c' ∧ ∀ x ∈ a, f x = none
  | [], _, h => by simp [first] at h
  | x :: xs, ys, h => by
    simp only [first] at h
    cases e : f x with
    | some y =>
      rw [e] at h
      simp only [Option.some.injEq] at h
      exact ⟨[], x, y, xs, rfl, h.symm, e, by simp⟩
    | none =>
      rw [e] at h
      simp only [Option.map_eq_some_iff] at h
      obtain ⟨zs, h1, h2⟩ := h
      obtain ⟨a, c, c', b, q1, q2, q3, q4⟩ := first_some h1
      refine ⟨x :: a, c, c', b, by rw [q1]; rfl, by rw [← h2, q2]; rfl, q3, fun z hz => ?_⟩
      rcases List.mem_cons.mp hz with k | k
      · rw [k]; exact e
      · exact q4 z k
theorem need_le (h : Nat) : need h ≤ 3 := by unfold need; split <;> omega
theorem need_pos (h : Nat) : 1 ≤ need h := by unfold need; split <;> omega
theorem jn_many {h : Nat} {xs : List Cd} (hn : need h ≤ xs.length) : (jn h xs).many + sumM (xs.drop (need h)) = sumM xs := by
  unfold need at hn ⊢
  split at hn
  · rename_i e
    match xs, hn with
    | f :: r, _ => simp [jn, e]
  · rename_i e
    match xs, hn with
    | f :: x :: y :: r, _ =>
      simp only [jn, e, if_false, List.drop_succ_cons, List.drop_zero, sumM_cons]
      split <;> simp only [Cd.many] <;> omega
theorem jn_good {h : Nat} {xs : List Cd} (hn : need h ≤ xs.length) (g : allGood xs) : (jn h xs).good := by
  unfold need at hn
  split at hn
  · rename_i e
    match xs, hn with
    | f :: r, _ =>
      simp only [jn, e, if_true]
      exact g f (by simp)
  · rename_i e
    match xs, hn with
    | f :: x :: y :: r, _ =>
      have h1 := g f (by simp)
      have h2 := g x (by simp)
      have h3 := g y (by simp)
      simp only [jn, e, if_false]
      split
      · exact ⟨h1, h2, h3⟩
      · exact ⟨⟨h1, h3⟩, h2⟩
theorem good_drop {xs : List Cd} (g : allGood xs) (n : Nat) : allGood (xs.drop n) := fun x hx => g x (List.mem_of_mem_drop hx)
theorem good_app {xs ys : List Cd} : allGood (xs ++ ys) ↔ allGood xs ∧ allGood ys := by
  simp only [allGood, List.mem_append]
  exact ⟨fun h => ⟨fun x hx => h x (.inl hx), fun x hx => h x (.inr hx)⟩, fun h x hx => hx.elim (h.1 x) (h.2 x)⟩
theorem good_cons {x : Cd} {xs : List Cd} : allGood (x :: xs) ↔ x.good ∧ allGood xs := by
  simp only [allGood, List.mem_cons, forall_eq_or_imp]
theorem cst_many : ∀ (n : Nat) (c c' : Cd), cst n c = some c' → c.good → c'.many + 1 = c.many ∧ c'.good
  | 0, _, _, h, _ => by simp [cst] at h
  | n + 1, c, c', h, g => by
    have b := spn_many c []
    have p := put_spn c []
    simp only [sumM_nil] at b
    rw [put_nil] at p
    have g' : ((Cd.leaf (spn c []).1).put (spn c []).2).good := by rw [p]; exact g
    rw [put_good] at g'
    unfold cst at h
    split at h
    · rename_i hn
      simp only [Option.some.injEq] at h
      subst h
      refine ⟨?_, ?_⟩
      · rw [put_many, jn_many hn]
        omega
      · rw [put_good]
        exact ⟨jn_good hn g'.2, good_drop g'.2 _⟩
    · simp only [Option.map_eq_some_iff] at h
      obtain ⟨ys, h1, h2⟩ := h
      obtain ⟨a, d, d', r, q1, q2, q3, _⟩ := first_some h1
      have gd : d.good := g'.2 d (by rw [q1]; simp)
      obtain ⟨i1, i2⟩ := cst_many n d d' q3 gd
      subst h2
      refine ⟨?_, ?_⟩
      · rw [put_many, q2]
        rw [q1] at b
        simp only [sumM_app, sumM_cons, Cd.many] at b ⊢
        omega
      · rw [put_good]
        refine ⟨g'.1, ?_⟩
        have g2 := g'.2
        rw [q1, good_app, good_cons] at g2
        rw [q2, good_app, good_cons]
        exact ⟨g2.1, i2, g2.2.2⟩
theorem step_many {c c' : Cd} (h : step c = some c') (g : c.good) : c'.many + 1 = c.many ∧ c'.good := cst_many _ c c' h g
/-- all codes of a run -/
def crn : Nat → Cd → List Cd
  | 0, c => [c]
  | n + 1, c => match step c with
    | none => [c]
    | some d => c :: crn n d
/-- the last -/
def nf : Nat → Cd → Cd
  | 0, c => c
  | n + 1, c => match step c with
    | none => c
    | some d => nf n d
theorem nf_fuel : ∀ (n m : Nat) (c : Cd), c.good → c.many ≤ n → c.many ≤ m → nf n c = nf m c
  | 0, _, c, _, h, _ => by have := many_pos c; omega
  | _ + 1, 0, c, _, _, h => by have := many_pos c; omega
  | n + 1, m + 1, c, g, h1, h2 => by
    unfold nf
    cases e : step c with
    | none => rfl
    | some d =>
      have := step_many e g
      exact nf_fuel n m d this.2 (by omega) (by omega)
def fin (c : Cd) : Cd := nf c.many c
theorem fin_step {c d : Cd} (g : c.good) (h : step c = some d) : fin c = fin d := by
  have k := step_many h g
  have : fin c = nf d.many d := by
    unfold fin
    rw [← k.1]
    simp only [nf, h]
  exact this
theorem fin_none {c : Cd} (h : step c = none) : fin c = c := by
  unfold fin
  obtain ⟨n, hn⟩ : ∃ n, c.many = n + 1 := ⟨c.many - 1, by have := many_pos c; omega⟩
  rw [hn]
  simp only [nf, h]
/-! ### the terms that codes stand for -/
def jT (j : Nat) (a b c : Sg) : Tm := if j = 73 then .fn a (.var a) else .fn a (.fn b (.fn c (if j = 66 then .use (.var a) (.use (.var b) (.var c)) else .use (.use (.var a) (.var c)) (.var b))))
def tT (w : Bool) (s : Nat → Sg) : Cd → Nat → Tm × Nat
  | .leaf j, k => (jT j (s k) (s (k + 1)) (s (k + 2)), if j = 73 && !w then k + 1 else k + 3)
  | .node a b, k => (.use (tT w s a k).1 (tT w s b (tT w s a k).2).1, (tT w s b (tT w s a k).2).2)
def dJ (j : Nat) : Db := if j = 73 then .l (.v 0) else .l (.l (.l (if j = 66 then .a (.v 2) (.a (.v 1) (.v 0)) else .a (.a (.v 2) (.v 0)) (.v 1))))
def cD : Cd → Db
  | .leaf j => dJ j
  | .node a b => .a (cD a) (cD b)
theorem tT_num (w : Bool) (s : Nat → Sg) : ∀ (c : Cd) (k : Nat), k < (tT w s c k).2 ∧ (tT w s c k).2 ≤ k + 3 * c.many ∧ (w = true → (tT w s c k).2 = k + 3 * c.many)
  | .leaf j, k => by
    simp only [tT, Cd.many]
    refine ⟨?_, ?_, fun h => ?_⟩
    · split <;> omega
    · split <;> omega
    · subst h; simp
  | .node a b, k => by
    obtain ⟨h1, h2, h3⟩ := tT_num w s a k
    obtain ⟨g1, g2, g3⟩ := tT_num w s b (tT w s a k).2
    simp only [tT, Cd.many]
    refine ⟨by omega, by omega, fun h => ?_⟩
    rw [g3 h, h3 h]
    omega
structure TtOk (s : Nat → Sg) (k k' : Nat) (t : Tm) (d : Db) (m : Nat) : Prop where
  cl : t.cl []
  fd : ∀ y, cn y t.funs ≤ 1
  fr : ∀ y, 0 < cn y t.funs → ∃ i, k ≤ i ∧ i < k' ∧ y = s i
  eq : ∀ y, cn y t.names = cn y t.funs
  ln : t.names.length = t.funs.length
  db : db [] t = d
  fl : t.funs.length ≤ 3 * m
theorem jT_ok {s : Nat → Sg} {j k : Nat} (h1 : s k ≠ s (k + 1)) (h2 : s k ≠ s (k + 2)) (h3 : s (k + 1) ≠ s (k + 2)) : TtOk s k (if j = 73 then k + 1 else k + 3) (jT j (s k) (s (k + 1)) (s (k + 2))) (dJ j) 1 := by
  unfold jT dJ
  by_cases hj : j = 73
  · rw [if_pos hj, if_pos hj, if_pos hj]
    refine ⟨by simp [Tm.cl], fun y => ?_, fun y h => ?_, fun y => rfl, rfl, by simp [db], by simp [Tm.funs]⟩
    · simp only [Tm.funs, cn_cons, cn_nil]; split <;> omega
    · simp only [Tm.funs, cn_cons, cn_nil] at h
      by_cases e : s k = y
      · exact ⟨k, Nat.le_refl _, by omega, e.symm⟩
      · rw [if_neg e] at h; omega
  · rw [if_neg hj, if_neg hj, if_neg hj]
    have h1' := Ne.symm h1
    have h2' := Ne.symm h2
    have h3' := Ne.symm h3
    generalize ha : s k = a at *
    generalize hb : s (k + 1) = b at *
    generalize hc : s (k + 2) = c at *
    have base : ∀ y, (cn y [a, b, c] ≤ 1) ∧ (0 < cn y [a, b, c] → ∃ i, k ≤ i ∧ i < k + 3 ∧ y = s i) := by
      intro y
      simp only [cn_cons, cn_nil]
      refine ⟨?_, fun h => ?_⟩
      · by_cases q1 : a = y
        · subst q1; simp [h1', h2']
        · by_cases q2 : b = y
          · subst q2; simp [h1, h3']
          · by_cases q3 : c = y <;> simp [q1, q2, q3]
      · by_cases q1 : a = y
        · exact ⟨k, by omega, by omega, by rw [ha]; exact q1.symm⟩
        · by_cases q2 : b = y
          · exact ⟨k + 1, by omega, by omega, by rw [hb]; exact q2.symm⟩
          · by_cases q3 : c = y
            · exact ⟨k + 2, by omega, by omega, by rw [hc]; exact q3.symm⟩
            · simp [q1, q2, q3] at h
    by_cases h66 : j = 66
    · rw [if_pos h66, if_pos h66]
      refine ⟨by simp [Tm.cl], fun y => (base y).1, fun y => (base y).2, fun y => rfl, rfl, ?_, by simp [Tm.funs]⟩
      have b1 : (a == b) = false := by simp [h1]
      have b2 : (a == c) = false := by simp [h2]
      have b3 : (b == c) = false := by simp [h3]
      have b1' : (b == a) = false := by simp [h1']
      have b2' : (c == a) = false := by simp [h2']
      have b3' : (c == b) = false := by simp [h3']
      simp [db, List.idxOf_cons, b1, b2, b3, b1', b2', b3']
    · rw [if_neg h66, if_neg h66]
      refine ⟨by simp [Tm.cl], fun y => (base y).1, fun y => (base y).2, fun y => ?_, rfl, ?_, by simp [Tm.funs]⟩
      · simp only [Tm.names, Tm.funs, List.cons_append, List.nil_append, cn_cons, cn_nil]; omega
      · have b1 : (a == b) = false := by simp [h1]
        have b2 : (a == c) = false := by simp [h2]
        have b3 : (b == c) = false := by simp [h3]
        have b1' : (b == a) = false := by simp [h1']
        have b2' : (c == a) = false := by simp [h2']
        have b3' : (c == b) = false := by simp [h3']
        simp [db, List.idxOf_cons, b1, b2, b3, b1', b2', b3']
theorem tT_ok {w : Bool} {s : Nat → Sg} {M : Nat} (inj : ∀ i < M, ∀ j < M, s i = s j → i = j) : ∀ (c : Cd) (k : Nat), k + 3 * c.many ≤ M → TtOk s k (tT w s c k).2 (tT w s c k).1 (cD c) c.many
  | .leaf j, k, h => by
    simp only [Cd.many] at h
    have ne : ∀ a b, a < M → b < M → a ≠ b → s a ≠ s b := fun a b ha hb q e => q (inj a ha b hb e)
    have J := jT_ok (s := s) (j := j) (k := k) (ne _ _ (by omega) (by omega) (by omega)) (ne _ _ (by omega) (by omega) (by omega)) (ne _ _ (by omega) (by omega) (by omega))
    refine ⟨J.cl, J.fd, fun y hy => ?_, J.eq, J.ln, J.db, J.fl⟩
    obtain ⟨i, h1, h2, h3⟩ := J.fr y hy
    refine ⟨i, h1, ?_, h3⟩
    simp only [tT]
    by_cases hj : j = 73
    · rw [if_pos hj] at h2
      split <;> omega
    · rw [if_neg hj] at h2
      simp only [hj, decide_false, Bool.false_and, Bool.false_eq_true, if_false]
      exact h2
  | .node a b, k, h => by
    simp only [Cd.many] at h
    obtain ⟨n1, n2, _⟩ := tT_num w s a k
    obtain ⟨m1, m2, _⟩ := tT_num w s b (tT w s a k).2
    have A := tT_ok (w := w) inj a k (by omega)
    have B := tT_ok (w := w) inj b (tT w s a k).2 (by omega)
    simp only [tT, cD]
    refine ⟨⟨A.cl, B.cl⟩, fun y => ?_, fun y hy => ?_, fun y => ?_, ?_, ?_, ?_⟩
    · simp only [Tm.funs, cn_app]
      have fa := A.fd y
      have fb := B.fd y
      by_cases za : cn y (tT w s a k).1.funs = 0
      · omega
      · by_cases zb : cn y (tT w s b (tT w s a k).2).1.funs = 0
        · omega
        · obtain ⟨i, i1, i2, i3⟩ := A.fr y (by omega)
          obtain ⟨i', j1, j2, j3⟩ := B.fr y (by omega)
          have := inj i (by omega) i' (by omega) (i3.symm.trans j3)
          omega
    · simp only [Tm.funs, cn_app] at hy
      by_cases za : cn y (tT w s a k).1.funs = 0
      · obtain ⟨i', j1, j2, j3⟩ := B.fr y (by omega)
        exact ⟨i', by omega, j2, j3⟩
      · obtain ⟨i, i1, i2, i3⟩ := A.fr y (by omega)
        exact ⟨i, i1, by omega, i3⟩
    · have := A.eq y
      have := B.eq y
      simp only [Tm.names, Tm.funs, cn_app]
      omega
    · have := A.ln
      have := B.ln
      simp only [Tm.names, Tm.funs, List.length_append]
      omega
    · simp only [Z51.db, A.db, B.db]
    · have := A.fl
      have := B.fl
      simp only [Tm.funs, List.length_append, Cd.many]
      omega
theorem TtOk.lc {s : Nat → Sg} {k k' m : Nat} {t : Tm} {d : Db} (h : TtOk s k k' t d m) : Lc t := ⟨⟨h.cl, h.fd, fun y => by rw [h.eq]; exact h.fd y, fun y => by rw [h.eq]; exact Nat.le_refl _, fun y hy => by simp at hy⟩, h.ln⟩
/-! ### a step of a code is steps of its term -/
theorem rn_cl : ∀ (d : Db) (n : Nat) (ξ : Nat → Nat), d.sc n → (∀ i < n, ξ i = i) → rn ξ d = d
  | .v i, n, ξ, h, hx => by simp only [rn, hx i h]
  | .l b, n, ξ, h, hx => by
    simp only [rn]
    rw [rn_cl b (n + 1) (up ξ) h fun i hi => by
      cases i with
      | zero => rfl
      | succ i => simp only [up, hx i (by omega)]]
  | .a f g, n, ξ, h, hx => by simp only [rn, rn_cl f n ξ h.1 hx, rn_cl g n ξ h.2 hx]
theorem sb_cl : ∀ (d : Db) (n : Nat) (σ : Nat → Db), d.sc n → (∀ i < n, σ i = .v i) → sb σ d = d
  | .v i, n, σ, h, hx => by simp only [sb, hx i h]
  | .l b, n, σ, h, hx => by
    simp only [sb]
    rw [sb_cl b (n + 1) (ups σ) h fun i hi => by
      cases i with
      | zero => rfl
      | succ i => simp only [ups, hx i (by omega)]; rfl]
  | .a f g, n, σ, h, hx => by simp only [sb, sb_cl f n σ h.1 hx, sb_cl g n σ h.2 hx]
theorem cD_sc : ∀ c : Cd, (cD c).sc 0
  | .leaf j => by
    unfold cD dJ
    split
    · exact Nat.zero_lt_one
    · split <;> simp [Db.sc]
  | .node a b => ⟨cD_sc a, cD_sc b⟩
theorem rn_cD (ξ : Nat → Nat) (c : Cd) : rn ξ (cD c) = cD c := rn_cl _ 0 ξ (cD_sc c) (fun i h => by omega)
theorem sb_cD (σ : Nat → Db) (c : Cd) : sb σ (cD c) = cD c := sb_cl _ 0 σ (cD_sc c) (fun i h => by omega)
theorem Ps.beta (b u : Db) : Ps (.a (.l b) u) (inst b u) := .one (.beta (Par.refl _) (Par.refl _))
theorem ps_I (f : Cd) : Ps (cD (.node (.leaf 73) f)) (cD f) := Ps.beta (.v 0) (cD f)
theorem dJ_B : dJ 66 = .l (.l (.l (.a (.v 2) (.a (.v 1) (.v 0))))) := rfl
theorem dJ_C : dJ 67 = .l (.l (.l (.a (.a (.v 2) (.v 0)) (.v 1)))) := rfl
theorem ps_B (f x y : Cd) : Ps (cD (.node (.node (.node (.leaf 66) f) x) y)) (cD (.node f (.node x y))) := by
  refine Ps.trans (Ps.a (Ps.a (Ps.beta (.l (.l (.a (.v 2) (.a (.v 1) (.v 0))))) (cD f)) (.refl _)) (.refl _)) ?_
  refine Ps.trans (Ps.a (Ps.beta _ _) (.refl _)) ?_
  refine Ps.trans (Ps.beta _ _) ?_
  simp only [inst, sb, ups, sc1, rn, rn_cD, sb_cD, cD]
  exact .refl _
theorem ps_C (f x y : Cd) : Ps (cD (.node (.node (.node (.leaf 67) f) x) y)) (cD (.node (.node f y) x)) := by
  refine Ps.trans (Ps.a (Ps.a (Ps.beta (.l (.l (.a (.a (.v 2) (.v 0)) (.v 1)))) (cD f)) (.refl _)) (.refl _)) ?_
  refine Ps.trans (Ps.a (Ps.beta _ _) (.refl _)) ?_
  refine Ps.trans (Ps.beta _ _) ?_
  simp only [inst, sb, ups, sc1, rn, rn_cD, sb_cD, cD]
  exact .refl _
theorem ps_put : ∀ (xs : List Cd) {c d : Cd}, Ps (cD c) (cD d) → Ps (cD (c.put xs)) (cD (d.put xs))
  | [], _, _, h => h
  | x :: xs, c, d, h => by
    rw [put_cons, put_cons]
    exact ps_put xs (Ps.a h (.refl _))
theorem ps_mid : ∀ (pre : List Cd) (c x y : Cd) (suf : List Cd), Ps (cD x) (cD y) → Ps (cD (c.put (pre ++ x :: suf))) (cD (c.put (pre ++ y :: suf)))
  | [], c, x, y, suf, h => by
    rw [List.nil_append, List.nil_append, put_cons, put_cons]
    exact ps_put suf (Ps.a (.refl _) h)
  | z :: pre, c, x, y, suf, h => by
    rw [List.cons_append, List.cons_append, put_cons, put_cons]
    exact ps_mid pre (.node c z) x y suf h
theorem first_split {f : Cd → Option Cd} : ∀ {xs ys : List Cd}, first f xs = some ys → ∃ pre x y suf, xs = pre ++ x :: suf ∧ ys = pre ++ y :: suf ∧ f x = some y
  | [], ys, h => by simp [first] at h
  | x :: xs, ys, h => by
    simp only [first] at h
    cases e : f x with
    | some y =>
      rw [e] at h
      cases h
      exact ⟨[], x, y, xs, rfl, rfl, e⟩
    | none =>
      rw [e] at h
      simp only [Option.map_eq_some_iff] at h
      obtain ⟨zs, h1, h2⟩ := h
      obtain ⟨pre, a, b, suf, e1, e2, e3⟩ := first_split h1
      exact ⟨x :: pre, a, b, suf, by rw [e1]; rfl, by rw [← h2, e2]; rfl, e3⟩
theorem step_ps : ∀ (n : Nat) (c d : Cd), c.many ≤ n → c.good → step c = some d → Ps (cD c) (cD d)
  | 0, c, _, h, _, _ => by have := many_pos c; omega
  | n + 1, c, d, h, g, e => by
    have b := spn_many c []
    have p := put_spn c []
    simp only [sumM_nil] at b
    rw [put_nil] at p
    rw [step_eq] at e
    generalize spn c [] = sp at *
    obtain ⟨hd, xs⟩ := sp
    simp only at e b p
    have g' : ((Cd.leaf hd).put xs).good := by rw [p]; exact g
    rw [put_good] at g'
    rw [← p]
    by_cases hn : need hd ≤ xs.length
    · rw [if_pos hn] at e
      cases e
      have hl : lf hd := g'.1
      rcases hl with z | z | z <;> subst z
      · match xs, hn with
        | f :: x :: y :: r, _ =>
          simp only [put_cons, need, jn]
          exact ps_put r (ps_B f x y)
      · match xs, hn with
        | f :: x :: y :: r, _ =>
          simp only [put_cons, need, jn]
          exact ps_put r (ps_C f x y)
      · match xs, hn with
        | f :: r, _ =>
          simp only [put_cons, need, jn]
          exact ps_put r (ps_I f)
    · rw [if_neg hn] at e
      simp only [Option.map_eq_some_iff] at e
      obtain ⟨ys, e1, e2⟩ := e
      obtain ⟨pre, x, y, suf, h1, h2, h3⟩ := first_split e1
      subst e2
      rw [h1, h2]
      have hx : x ∈ xs := by rw [h1]; simp
      have := sumM_mem hx
      exact ps_mid pre _ x y suf (step_ps n x y (by omega) (g'.2 x hx) h3)
end Z51
end

section
namespace Z51
open Z
/-! ### what the defs of codes do -/
abbrev trs (xs : List Cd) : List PV := xs.map Cd.tree
def opt : Option Cd → PV
  | none => .non
  | some c => c.tree
theorem tree_ne (c : Cd) : c.tree ≠ .non := by cases c <;> simp [Cd.tree]
/-- unwound -/
theorem unw_loop {S : Sem} (hc : ∀ (a b : PV) (st : Store), S.call 12 [.pv (.tup [a, b])] st = some (.ok (.pv (.bl true)) st)) (hl : ∀ (c : Nat) (st : Store), S.call 12 [.pv (.str [c])] st = some (.ok (.pv (.bl false)) st)) :
    ∀ (c : Cd) (r : List Cd) (n : Nat) (a : Option LV), c.many ≤ n → c.many + r.length ≤ 1000 → ∃ a', whLoop (evT S (.val (.call 12 [.var 0]))) (exSs S [.asg (.tp [.nm 0, .nm 2]) (.var 0), .ex (.bm .insert (.var 1) [.lit (.int 0), .var 2])]) n [some (.pv c.tree), some (.ref 0), a] [.lst true ((trs r).map .pv)] =
      some (.nx [some (.pv (.str [(spn c r).1])), some (.ref 0), a'] [.lst true ((trs (spn c r).2).map .pv)])
  | .leaf c, r, n, a, h, _ => by
    obtain ⟨n, rfl⟩ : ∃ m, n = m + 1 := ⟨n - 1, by simp only [Cd.many] at h; omega⟩
    exact ⟨a, by rw [whLoop_false (by simp [Cd.tree, hl])]; rfl⟩
  | .node f x, r, n, a, h, hr => by
    simp only [Cd.many] at h hr
    obtain ⟨n, rfl⟩ : ∃ m, n = m + 1 := ⟨n - 1, by have := many_pos f; omega⟩
    have := many_pos x
    obtain ⟨a', ih⟩ := unw_loop hc hl f (x :: r) n (some (.pv x.tree)) (by omega) (by simp only [List.length_cons]; omega)
    refine ⟨a', ?_⟩
    have hln : r.length < line := by have : line = 16777216 := rfl; omega
    rw [whLoop_true (φ' := [some (.pv f.tree), some (.ref 0), some (.pv x.tree)]) (st1 := [.lst true ((trs r).map .pv)]) (st' := [.lst true ((trs (x :: r)).map .pv)]) (by simp [Cd.tree, hc]) (by simp [Cd.tree, bmOk, doBM, hln])]
    exact ih
theorem unw {c : Cd} (h : c.many ≤ 900) {n : Nat} : Pr.cal (n + 2) 20 [.pv c.tree] [] = some (.ok (.pv (.tup [.str [(spn c []).1], .lst (trs (spn c []).2)])) [.lst false ((trs (spn c []).2).map .pv)]) := by
  rw [cal_eq Pr (n + 1) 20 m20 _ _ rfl rfl]
  obtain ⟨a', e⟩ := unw_loop (S := Pr.sem (n + 1)) (fun a b st => use_node a b) (fun c st => use_leaf c) c [] 1000 none (by omega) (by simp; omega)
  have hw : (Pr.sem (n + 1)).wf = 1000 := rfl
  simp only [List.map_nil] at e
  have f := frz_ref (st := [.lst true ((trs (spn c []).2).map .pv)]) (r := 0) (b := true) (ps := trs (spn c []).2) rfl
  simp only [List.map_map] at e f
  simp [m20, hw, e, f]
/-- put_on -/
theorem put_loop {S : Sem} {st : Store} : ∀ (xs : List Cd) (c : Cd) (b a : Option LV), ∃ a', forLoop (forStep S (.nm 2) [.asg (.nm 0) (.tup [.var 0, .var 2])]) (trs xs) [some (.pv c.tree), b, a] st = some (.nx [some (.pv (c.put xs).tree), b, a'] st)
  | [], c, b, a => ⟨a, rfl⟩
  | x :: xs, c, b, a => by
    obtain ⟨a', ih⟩ := put_loop (S := S) (st := st) xs (.node c x) b (some (.pv x.tree))
    refine ⟨a', ?_⟩
    simp only [trs, List.map_cons] at ih ⊢
    rw [forLoop_cons]
    simp [forStep, Cd.tree]
    exact ih
theorem puts {n : Nat} (c : Cd) (xs : List Cd) (st : Store) : Pr.cal (n + 1) 21 [.pv c.tree, .pv (.lst (trs xs))] st = some (.ok (.pv (c.put xs).tree) st) := by
  rw [cal_eq Pr n 21 m21 _ _ rfl rfl]
  obtain ⟨a', e⟩ := put_loop (S := Pr.sem n) (st := st) xs c (some (.pv (.lst (trs xs)))) none
  simp [m21] at e ⊢
  simp [e]
theorem putf {n : Nat} (c : Cd) (xs : List Cd) (st : Store) : Pr.cal (n + 1) 43 [.pv c.tree, .pv (.lst (trs xs))] st = some (.ok (.pv (c.put xs).tree) st) := by
  rw [cal_eq Pr n 43 m43 _ _ rfl rfl]
  obtain ⟨a', e⟩ := put_loop (S := Pr.sem n) (st := st) xs c (some (.pv (.lst (trs xs)))) none
  simp [m43] at e ⊢
  simp [e]
theorem put_call {n : Nat} (c : Cd) (xs : List Cd) (st : Store) : (Pr.sem (n + 1)).call 21 [.pv c.tree, .pv (.lst (trs xs))] st = some (.ok (.pv (c.put xs).tree) st) := call2 rfl (puts c xs [])
theorem putf_call {n : Nat} (c : Cd) (xs : List Cd) (st : Store) : (Pr.sem (n + 1)).call 43 [.pv c.tree, .pv (.lst (trs xs))] st = some (.ok (.pv (c.put xs).tree) st) := call2 rfl (putf c xs [])
/-- joined -/
theorem jnd {n : Nat} {h : Nat} {xs : List Cd} (hl : lf h) (hn : xs.length = need h) (st : Store) : Pr.cal (n + 1) 22 [.pv (.str [h]), .pv (.lst (trs xs))] st = some (.ok (.pv (jn h xs).tree) st) := by
  rw [cal_eq Pr n 22 m22 _ _ rfl rfl]
  rcases hl with z | z | z <;> subst z
  · match xs, hn with
    | [f, x, y], _ => simp [m22, jn, Cd.tree]
  · match xs, hn with
    | [f, x, y], _ => simp [m22, jn, Cd.tree]
  · match xs, hn with
    | [f], _ => simp [m22, jn]
theorem jn_call {n : Nat} {h : Nat} {xs : List Cd} (hl : lf h) (hn : xs.length = need h) (st : Store) : (Pr.sem (n + 1)).call 22 [.pv (.str [h]), .pv (.lst (trs xs))] st = some (.ok (.pv (jn h xs).tree) st) := call2 rfl (jnd hl hn [])
theorem jn_take {h : Nat} {xs : List Cd} (hn : need h ≤ xs.length) : jn h (xs.take (need h)) = jn h xs := by
  unfold need at hn ⊢
  split at hn
  · rename_i e
    match xs, hn with
    | f :: r, _ => simp [jn, e]
  · rename_i e
    match xs, hn with
    | f :: x :: y :: r, _ => simp [jn, e]
theorem needs {n : Nat} {h : Nat} (hl : lf h) : ∃ d, (Pr.sem n).dtab 0 = some d ∧ (look [h] d) = some (.int (need h : Nat)) := by
  rcases hl with z | z | z <;> subst z <;> exact ⟨_, rfl, by rfl⟩
theorem tabD {n : Nat} {h : Nat} {i : Nat} (hl : lf h) {φ : Slots} {st : Store} (hi : φ[i]? = some (some (.pv (.str [h])))) : evE (Pr.sem n) (.tabD 0 (.var i)) φ st = some (.ok (.pv (.int (need h : Nat))) st) := by
  obtain ⟨d, h1, h2⟩ := needs (n := n) hl
  simp [hi, h1, h2]
/-! ### steps of codes -/
section
variable {S : Sem} {φ : Slots} {st : Store} {i : Nat}
theorem isn_t {c : Cd} (h : φ[i]? = some (some (.pv c.tree))) : evT S (.isn true (.var i)) φ st = some (.ok true st) := by
  cases c <;> simp [h, Cd.tree]
theorem isn_n (h : φ[i]? = some (some (.pv .non))) : evT S (.isn true (.var i)) φ st = some (.ok false st) := by
  simp [h]
end
theorem cut_pre {xs pre suf : List Cd} (e : xs = pre ++ suf) : cut (trs xs) none (some (pre.length : Int)) = trs pre := by
  rw [cut_to _ (by rw [e]; simp), e]
  simp [trs]
theorem cut_suf {xs pre suf : List Cd} {x : Cd} (e : xs = pre ++ x :: suf) : cut (trs xs) (some ((pre.length : Int) + 1)) none = trs suf := by
  have k1 : (pre.length : Int) + 1 = ((pre.length + 1 : Nat) : Int) := by push_cast; rfl
  have e2 : trs xs = trs (pre ++ [x]) ++ trs suf := by rw [e]; simp
  rw [k1, cut_from _ (by rw [e]; simp), e2, List.drop_left' (by simp)]
theorem cat3 {pre suf : List Cd} {y : Cd} (h : pre.length + suf.length < 1000) : doBin .add (.lst (trs pre)) (.lst [y.tree]) = some (.lst (trs pre ++ [y.tree])) ∧ doBin .add (.lst (trs pre ++ [y.tree])) (.lst (trs suf)) = some (.lst (trs (pre ++ y :: suf))) := by
  have hline : line = 16777216 := rfl
  refine ⟨cat_lst (by simp; omega), ?_⟩
  rw [cat_lst (by simp; omega)]
  simp [trs]
abbrev sB : List MS := [.asg (.nm 6) (.call 23 [.var 5]), .iff (.isn true (.var 6)) [.ret (.call 21 [.var 1, .bin .add (.bin .add (.slc (.var 2) false (.lit .non) true (.var 4)) (.lst false [.var 6])) (.slc (.var 2) true (.bin .add (.var 4) (.lit (.int 1))) false (.lit .non))])] []]
theorem son_loop {S : Sem} {st : Store} {h : Nat} {xs : List Cd} {nd c0 : PV} (hf : xs.length < 900) (hp : ∀ (c : Cd) (ys : List Cd) (st : Store), S.call 21 [.pv c.tree, .pv (.lst (trs ys))] st = some (.ok (.pv (c.put ys).tree) st))
    (hs : ∀ x ∈ xs, S.call 23 [.pv x.tree] st = some (.ok (.pv (opt (step x))) st)) : ∀ (suf pre : List Cd) (a4 a5 a6 : Option LV), xs = pre ++ suf → ∃ b4 b5 b6, forLoop (forStep S (.tp [.nm 4, .nm 5]) sB) (numbered pre.length (trs suf)) [some (.pv c0), some (.pv (.str [h])), some (.pv (.lst (trs xs))), some (.pv nd), a4, a5, a6] st =
      (match first step suf with
        | none => some (.nx [some (.pv c0), some (.pv (.str [h])), some (.pv (.lst (trs xs))), some (.pv nd), b4, b5, b6] st)
        | some ys => some (.rt (.pv ((Cd.leaf h).put (pre ++ ys)).tree) st))
  | [], pre, a4, a5, a6, _ => ⟨a4, a5, a6, rfl⟩
  | x :: suf, pre, a4, a5, a6, e => by
    have q := hs x (by rw [e]; simp)
    simp only [trs, List.map_cons, numbered] at *
    rw [forLoop_cons]
    cases k : step x with
    | none =>
      rw [k] at q
      obtain ⟨b4, b5, b6, ih⟩ := son_loop (S := S) (st := st) (h := h) (xs := xs) (nd := nd) (c0 := c0) hf hp hs suf (pre ++ [x]) (some (.pv (.int (pre.length : Nat)))) (some (.pv x.tree)) (some (.pv .non)) (by rw [e]; simp)
      refine ⟨b4, b5, b6, ?_⟩
      simp only [first, k]
      rw [List.length_append] at ih
      simp only [List.length_cons, List.length_nil, Nat.zero_add] at ih
      have e1 : forStep S (.tp [.nm 4, .nm 5]) sB (.tup [.int (pre.length : Nat), x.tree]) [some (.pv c0), some (.pv (.str [h])), some (.pv (.lst (xs.map Cd.tree))), some (.pv nd), a4, a5, a6] st = some (.nx [some (.pv c0), some (.pv (.str [h])), some (.pv (.lst (xs.map Cd.tree))), some (.pv nd), some (.pv (.int (pre.length : Nat))), some (.pv x.tree), some (.pv .non)] st) := by
        simp [forStep, q, opt]
      rw [e1]
      simp only
      rw [ih]
      cases first step suf with
      | none => rfl
      | some ys => simp
    | some y =>
      rw [k] at q
      refine ⟨a4, a5, a6, ?_⟩
      have hl : pre.length + suf.length < 1000 := by
        have := congrArg List.length e
        simp at this
        omega
      obtain ⟨c1, c2⟩ := cat3 (y := y) hl
      have u1 := cut_pre e
      have u2 := cut_suf e
      have p := hp (.leaf h) (pre ++ y :: suf) st
      simp only [trs] at u1 u2 c1 c2 p
      have it := isn_t (S := S) (st := st) (c := y) (i := 6) (φ := [some (.pv c0), some (.pv (.str [h])), some (.pv (.lst (xs.map Cd.tree))), some (.pv nd), some (.pv (.int (pre.length : Nat))), some (.pv x.tree), some (.pv y.tree)]) rfl
      have e1 : forStep S (.tp [.nm 4, .nm 5]) sB (.tup [.int (pre.length : Nat), x.tree]) [some (.pv c0), some (.pv (.str [h])), some (.pv (.lst (xs.map Cd.tree))), some (.pv nd), a4, a5, a6] st = some (.rt (.pv ((Cd.leaf h).put (pre ++ y :: suf)).tree) st) := by
        simp only [Cd.tree] at p
        simp [forStep, q, opt, -evT_isn, it, optL, u1, u2, c1, c2]
        simp only [List.map_append, List.map_cons] at p
        exact by simp [p]
      rw [e1]
      simp only [first, k]
theorem son : ∀ (n : Nat) (c : Cd), c.good → c.many ≤ 800 → c.many + 2 ≤ n → Pr.cal n 23 [.pv c.tree] [] = some (.ok (.pv (opt (step c))) [])
  | 0, _, _, _, h => by omega
  | n + 1, c, g, h8, h => by
    have b := spn_many c []
    have p := put_spn c []
    simp only [sumM_nil] at b
    rw [put_nil] at p
    have g' : ((Cd.leaf (spn c []).1).put (spn c []).2).good := by rw [p]; exact g
    rw [put_good] at g'
    rw [cal_eq Pr n 23 m23 _ _ rfl rfl]
    obtain ⟨m, rfl⟩ : ∃ m, n = m + 2 := ⟨n - 2, by have := many_pos c; omega⟩
    have cu := call1 (P := Pr) (f := 20) (st := []) rfl (unw (c := c) (by omega) (n := m))
    have st := step_eq c
    generalize he : spn c [] = sp at *
    obtain ⟨hd, xs⟩ := sp
    simp only at *
    have hlf : lf hd := g'.1
    have td := fun (φ : Slots) (hi : φ[1]? = some (some (.pv (.str [hd])))) => tabD (n := m + 2) (st := []) hlf hi
    have hlen := len_sumM xs
    have lx : doBI .len [.lst (trs xs)] = some (.int (trs xs).length) := rfl
    by_cases hn : need hd ≤ xs.length
    · rw [if_pos hn] at st
      rw [st]
      have j := jn_call (n := m + 1) (xs := xs.take (need hd)) hlf (by rw [List.length_take]; omega) []
      rw [jn_take hn] at j
      have pc := put_call (n := m + 1) (jn hd xs) (xs.drop (need hd)) []
      have u1 : cut (trs xs) none (some (need hd : Int)) = trs (xs.take (need hd)) := by rw [cut_to _ (by simpa using hn)]; simp [trs]
      have u2 : cut (trs xs) (some (need hd : Int)) none = trs (xs.drop (need hd)) := by rw [cut_from _ (by simpa using hn)]; simp [trs]
      have hn' : (need hd : Int) ≤ (xs.length : Int) := by omega
      simp only [opt]
      simp only [trs, List.map_take, List.map_drop] at j pc u1 u2 cu td
      simp [m23, cu, -evE_tabD, td, hn', optL, u1, u2, j, pc]
    · rw [if_neg hn] at st
      rw [st]
      have hn' : ¬ (need hd : Int) ≤ (xs.length : Int) := by omega
      obtain ⟨b4, b5, b6, lp⟩ := son_loop (S := Pr.sem (m + 2)) (st := []) (h := hd) (xs := xs) (nd := .int (need hd : Nat)) (c0 := c.tree) (by omega) (fun c ys st => put_call (n := m + 1) c ys st)
        (fun x hx => call1 (P := Pr) (f := 23) (st := []) rfl (son (m + 2) x (g'.2 x hx) (by have := sumM_mem hx; omega) (by have := sumM_mem hx; omega))) xs [] none none none rfl
      have fv : forV .enum [.pv (.lst (trs xs))] (forStep (Pr.sem (m + 2)) (.tp [.nm 4, .nm 5]) sB) = forLoop (forStep (Pr.sem (m + 2)) (.tp [.nm 4, .nm 5]) sB) (numbered 0 (trs xs)) := by
        funext φ st
        exact forV_of (ps := [.lst (trs xs)]) rfl _ φ st
      simp only [List.length_nil, List.nil_append] at lp
      cases k : first step xs with
      | none =>
        rw [k] at lp
        simp [m23, cu, -evE_tabD, td, hn'] at lp fv ⊢
        simp [fv, lp, opt]
      | some ys =>
        rw [k] at lp
        simp [m23, cu, -evE_tabD, td, hn'] at lp fv ⊢
        simp [fv, lp, opt]
theorem son_call {n : Nat} {c : Cd} (g : c.good) (h : c.many ≤ 800) (hn : c.many + 2 ≤ n) (st : Store) : (Pr.sem n).call 23 [.pv c.tree] st = some (.ok (.pv (opt (step c))) st) := call1 rfl (son n c g h hn)
/-! ### the law's own steps -/
theorem spine_of {n : Nat} {c : Cd} (h : c.many ≤ 300) (st : Store) : (Pr.sem (n + 1)).call 42 [.pv c.tree] st = some (.ok (.pv (.tup [.str [(spn c []).1], .lst (trs (spn c []).2)])) st) := by
  refine call1 (st1 := []) rfl ?_
  rw [cal_eq Pr n 42 m42 _ _ rfl rfl]
  let I : Nat → Slots → Store → Prop := fun i φ st => st = [] ∧ ∃ (d : Cd) (r : List Cd) (a : Option LV), φ = [some (.pv d.tree), some (.pv (.lst (trs r))), a] ∧ spn d r = spn c [] ∧ (d.many + i ≤ c.many ∨ ∃ x, d = .leaf x) ∧ d.many + r.length ≤ c.many
  obtain ⟨φ', st', e, hst, d, r, a, hφ, h1, h2, h3⟩ := forLoop_inv (step := forStep (Pr.sem n) (.nm 2) [.iff (.val (.isi .tuple (.var 0))) [.asg (.nm 1) (.bin .add (.lst false [.idx (.var 0) (.lit (.int 1))]) (.var 1)), .asg (.nm 0) (.idx (.var 0) (.lit (.int 0)))] []]) I ((upto 0 400).map .int) 0 [some (.pv c.tree), some (.pv (.lst [])), none] [] ⟨rfl, c, [], none, rfl, rfl, .inl (by omega), by simp⟩ fun i x φ st _ hi => by
    obtain ⟨hst, d, r, a, hφ, h1, h2, h3⟩ := hi
    subst hφ
    subst hst
    cases d with
    | leaf y => exact ⟨_, _, by simp [forStep, Cd.tree, isTy], rfl, .leaf y, r, some (.pv x), rfl, h1, .inr ⟨y, rfl⟩, h3⟩
    | node f y =>
      have hline : line = 16777216 := rfl
      have cc : doBin .add (.lst [y.tree]) (.lst (trs r)) = some (.lst (trs (y :: r))) := by rw [cat_lst (by simp only [Cd.many] at h3; simp; omega)]; simp
      have := many_pos y
      refine ⟨_, _, by simp [forStep, Cd.tree, isTy, cc], rfl, f, y :: r, some (.pv x), rfl, h1, .inl ?_, ?_⟩
      · rcases h2 with z | ⟨_, z⟩
        · simp only [Cd.many] at z; omega
        · cases z
      · simp only [Cd.many, List.length_cons] at h3 ⊢
        omega
  have hlen : ((upto 0 400).map PV.int).length = 400 := by rw [List.length_map, upto_length]
  have hd : ∃ x, d = .leaf x := by
    rcases h2 with z | z
    · rw [hlen] at z; omega
    · exact z
  obtain ⟨x, rfl⟩ := hd
  subst hφ
  subst hst
  have fv := forV_upto (n := 400) (by decide) (forStep (Pr.sem n) (.nm 2) [.iff (.val (.isi .tuple (.var 0))) [.asg (.nm 1) (.bin .add (.lst false [.idx (.var 0) (.lit (.int 1))]) (.var 1)), .asg (.nm 0) (.idx (.var 0) (.lit (.int 0)))] []]) [some (.pv c.tree), some (.pv (.lst [])), none] []
  rw [e] at fv
  rw [← h1]
  simp [m42] at fv ⊢
  simp [fv, spn, Cd.tree]
abbrev tB : List MS := [.asg (.nm 4) (.call 44 [.idx (.var 2) (.var 3)]), .iff (.isn true (.var 4)) [.ret (.call 43 [.var 1, .bin .add (.bin .add (.slc (.var 2) false (.lit .non) true (.var 3)) (.lst false [.var 4])) (.slc (.var 2) true (.bin .add (.var 3) (.lit (.int 1))) false (.lit .non))])] []]
theorem lst_loop {S : Sem} {st : Store} {h : Nat} {xs : List Cd} {c0 : PV} (hf : xs.length < 900) (hp : ∀ (c : Cd) (ys : List Cd) (st : Store), S.call 43 [.pv c.tree, .pv (.lst (trs ys))] st = some (.ok (.pv (c.put ys).tree) st))
    (hs : ∀ x ∈ xs, S.call 44 [.pv x.tree] st = some (.ok (.pv (opt (step x))) st)) : ∀ (suf pre : List Cd) (a4 a5 : Option LV), xs = pre ++ suf → ∃ b4 b5, forLoop (forStep S (.nm 3) tB) ((upto (pre.length : Nat) suf.length).map .int) [some (.pv c0), some (.pv (.str [h])), some (.pv (.lst (trs xs))), a4, a5] st =
      (match first step suf with
        | none => some (.nx [some (.pv c0), some (.pv (.str [h])), some (.pv (.lst (trs xs))), b4, b5] st)
        | some ys => some (.rt (.pv ((Cd.leaf h).put (pre ++ ys)).tree) st))
  | [], pre, a4, a5, _ => ⟨a4, a5, rfl⟩
  | x :: suf, pre, a4, a5, e => by
    have q := hs x (by rw [e]; simp)
    have eu : upto (pre.length : Nat) (x :: suf).length = (pre.length : Int) :: upto ((pre.length : Int) + 1) suf.length := rfl
    rw [eu, List.map_cons, forLoop_cons]
    have ix : atI (trs xs) (pre.length : Int) = some x.tree := by
      rw [atI_nat (by rw [e]; simp), e]
      simp
    simp only [trs] at *
    cases k : step x with
    | none =>
      rw [k] at q
      obtain ⟨b4, b5, ih⟩ := lst_loop (S := S) (st := st) (h := h) (xs := xs) (c0 := c0) hf hp hs suf (pre ++ [x]) (some (.pv (.int (pre.length : Nat)))) (some (.pv .non)) (by rw [e]; simp)
      refine ⟨b4, b5, ?_⟩
      simp only [first, k]
      have kk : (((pre ++ [x]).length : Nat) : Int) = (pre.length : Int) + 1 := by simp
      rw [kk] at ih
      have e1 : forStep S (.nm 3) tB (.int (pre.length : Nat)) [some (.pv c0), some (.pv (.str [h])), some (.pv (.lst (xs.map Cd.tree))), a4, a5] st = some (.nx [some (.pv c0), some (.pv (.str [h])), some (.pv (.lst (xs.map Cd.tree))), some (.pv (.int (pre.length : Nat))), some (.pv .non)] st) := by
        simp [forStep, ix, q, opt]
      rw [e1]
      simp only
      simp only [trs] at ih
      rw [ih]
      cases first step suf with
      | none => rfl
      | some ys => simp
    | some y =>
      rw [k] at q
      refine ⟨a4, a5, ?_⟩
      have hl : pre.length + suf.length < 1000 := by
        have := congrArg List.length e
        simp at this
        omega
      obtain ⟨c1, c2⟩ := cat3 (y := y) hl
      have u1 := cut_pre e
      have u2 := cut_suf e
      have p := hp (.leaf h) (pre ++ y :: suf) st
      simp only [trs] at u1 u2 c1 c2 p
      have it := isn_t (S := S) (st := st) (c := y) (i := 4) (φ := [some (.pv c0), some (.pv (.str [h])), some (.pv (.lst (xs.map Cd.tree))), some (.pv (.int (pre.length : Nat))), some (.pv y.tree)]) rfl
      have e1 : forStep S (.nm 3) tB (.int (pre.length : Nat)) [some (.pv c0), some (.pv (.str [h])), some (.pv (.lst (xs.map Cd.tree))), a4, a5] st = some (.rt (.pv ((Cd.leaf h).put (pre ++ y :: suf)).tree) st) := by
        simp only [Cd.tree] at p
        simp [forStep, ix, q, opt, -evT_isn, it, optL, u1, u2, c1, c2]
        simp only [List.map_append, List.map_cons] at p
        exact by simp [p]
      rw [e1]
      simp only [first, k]

theorem cut3 (f x y : Cd) (r : List Cd) : cut (trs (f :: x :: y :: r)) (some 3) none = trs r := by
  have := cut_from (trs (f :: x :: y :: r)) (k := 3) (by simp)
  simpa using this
section
variable {S : Sem} {c0 : PV} {h : Nat} {xs : List Cd}
abbrev lsl (c0 : PV) (h : Nat) (xs : List Cd) : Slots := [some (.pv c0), some (.pv (.str [h])), some (.pv (.lst (trs xs))), none, none]
theorem lt1 (st : Store) : evT S (.boolop true [.cmp .eq (.var 1) (.lit (.str [73])), .cmp .gt (.bi .len [.var 2]) (.lit (.int 0))]) (lsl c0 h xs) st = some (.ok (decide (h = 73) && decide (0 < xs.length)) st) := by
  have e : ((0 : Int) < ((trs xs).length : Int)) = (0 < xs.length) := by apply propext; simp
  by_cases z : h = 73
  · subst z; simp [e]
  · simp [z]
theorem lt2 (st : Store) : evT S (.boolop true [.cmp .eq (.var 1) (.lit (.str [66])), .cmp .gt (.bi .len [.var 2]) (.lit (.int 2))]) (lsl c0 h xs) st = some (.ok (decide (h = 66) && decide (2 < xs.length)) st) := by
  have e : ((2 : Int) < ((xs.length : Nat) : Int)) = (2 < xs.length) := by apply propext; omega
  by_cases z : h = 66
  · subst z; simp [e]
  · simp [z]
theorem lt3 (st : Store) : evT S (.boolop true [.cmp .eq (.var 1) (.lit (.str [67])), .cmp .gt (.bi .len [.var 2]) (.lit (.int 2))]) (lsl c0 h xs) st = some (.ok (decide (h = 67) && decide (2 < xs.length)) st) := by
  have e : ((2 : Int) < ((xs.length : Nat) : Int)) = (2 < xs.length) := by apply propext; omega
  by_cases z : h = 67
  · subst z; simp [e]
  · simp [z]
variable (hp : ∀ (c : Cd) (ys : List Cd) (st : Store), S.call 43 [.pv c.tree, .pv (.lst (trs ys))] st = some (.ok (.pv (c.put ys).tree) st))
include hp
theorem la1 (st : Store) (f : Cd) (r : List Cd) : exSs S [.ret (.call 43 [.idx (.var 2) (.lit (.int 0)), .slc (.var 2) true (.lit (.int 1)) false (.lit .non)])] (lsl c0 h (f :: r)) st = some (.rt (.pv (f.put r).tree) st) := by
  have u2 : cut (trs (f :: r)) (some 1) none = trs r := cut1 _ _
  have p := hp f r st
  simp only [trs, List.map_cons] at u2 p
  simp [optL, u2, p]
theorem la2 (st : Store) (f x y : Cd) (r : List Cd) : exSs S [.ret (.call 43 [.tup [.idx (.var 2) (.lit (.int 0)), .tup [.idx (.var 2) (.lit (.int 1)), .idx (.var 2) (.lit (.int 2))]], .slc (.var 2) true (.lit (.int 3)) false (.lit .non)])] (lsl c0 h (f :: x :: y :: r)) st = some (.rt (.pv ((Cd.node f (.node x y)).put r).tree) st) := by
  have u2 := cut3 f x y r
  have p := hp (.node f (.node x y)) r st
  simp only [trs, List.map_cons, Cd.tree] at u2 p
  simp [optL, u2, p]
theorem la3 (st : Store) (f x y : Cd) (r : List Cd) : exSs S [.ret (.call 43 [.tup [.tup [.idx (.var 2) (.lit (.int 0)), .idx (.var 2) (.lit (.int 2))], .idx (.var 2) (.lit (.int 1))], .slc (.var 2) true (.lit (.int 3)) false (.lit .non)])] (lsl c0 h (f :: x :: y :: r)) st = some (.rt (.pv ((Cd.node (.node f y) x).put r).tree) st) := by
  have u2 := cut3 f x y r
  have p := hp (.node (.node f y) x) r st
  simp only [trs, List.map_cons, Cd.tree] at u2 p
  simp [optL, u2, p]
end
theorem lst_body : m44.body = [.asg (.tp [.nm 1, .nm 2]) (.call 42 [.var 0]), .iff (.boolop true [.cmp .eq (.var 1) (.lit (.str [73])), .cmp .gt (.bi .len [.var 2]) (.lit (.int 0))]) [.ret (.call 43 [.idx (.var 2) (.lit (.int 0)), .slc (.var 2) true (.lit (.int 1)) false (.lit .non)])] [], .iff (.boolop true [.cmp .eq (.var 1) (.lit (.str [66])), .cmp .gt (.bi .len [.var 2]) (.lit (.int 2))]) [.ret (.call 43 [.tup [.idx (.var 2) (.lit (.int 0)), .tup [.idx (.var 2) (.lit (.int 1)), .idx (.var 2) (.lit (.int 2))]], .slc (.var 2) true (.lit (.int 3)) false (.lit .non)])] [], .iff (.boolop true [.cmp .eq (.var 1) (.lit (.str [67])), .cmp .gt (.bi .len [.var 2]) (.lit (.int 2))]) [.ret (.call 43 [.tup [.tup [.idx (.var 2) (.lit (.int 0)), .idx (.var 2) (.lit (.int 2))], .idx (.var 2) (.lit (.int 1))], .slc (.var 2) true (.lit (.int 3)) false (.lit .non)])] [], .for_ (.nm 3) .range [.bi .len [.var 2]] [.asg (.nm 4) (.call 44 [.idx (.var 2) (.var 3)]), .iff (.isn true (.var 4)) [.ret (.call 43 [.var 1, .bin .add (.bin .add (.slc (.var 2) false (.lit .non) true (.var 3)) (.lst false [.var 4])) (.slc (.var 2) true (.bin .add (.var 3) (.lit (.int 1))) false (.lit .non))])] []], .ret (.lit (.non))] := rfl
theorem lst : ∀ (n : Nat) (c : Cd), c.good → c.many ≤ 300 → c.many + 2 ≤ n → Pr.cal n 44 [.pv c.tree] [] = some (.ok (.pv (opt (step c))) [])
  | 0, _, _, _, h => by omega
  | n + 1, c, g, h8, h => by
    have b := spn_many c []
    have p := put_spn c []
    simp only [sumM_nil] at b
    rw [put_nil] at p
    have g' : ((Cd.leaf (spn c []).1).put (spn c []).2).good := by rw [p]; exact g
    rw [put_good] at g'
    rw [cal_eq Pr n 44 m44 _ _ rfl rfl, lst_body]
    obtain ⟨m, rfl⟩ : ∃ m, n = m + 2 := ⟨n - 2, by have := many_pos c; omega⟩
    have cu := spine_of (n := m + 1) (c := c) (by omega) []
    have st := step_eq c
    have rcx := fun (x : Cd) (hx : x ∈ (spn c []).2) => call1 (P := Pr) (f := 44) (st := []) rfl (lst (m + 2) x (g'.2 x hx) (by have := sumM_mem hx; omega) (by have := sumM_mem hx; omega))
    have hp := fun (c : Cd) (ys : List Cd) (st : Store) => putf_call (n := m + 1) c ys st
    generalize spn c [] = sp at cu st rcx g' b
    obtain ⟨hd, xs⟩ := sp
    simp only at cu st rcx g' b
    generalize Pr.sem (m + 2) = S at cu rcx hp
    have hlf : lf hd := g'.1
    have hlen := len_sumM xs
    have a0 : exS S (.asg (.tp [.nm 1, .nm 2]) (.call 42 [.var 0])) ([.pv c.tree].map some ++ List.replicate (m44.nn - m44.ar) none) [] = some (.nx (lsl c.tree hd xs) []) := by
      simp [m44, cu]
    rw [exSs_cons, a0, seqS_nx]
    by_cases hn : need hd ≤ xs.length
    · rw [if_pos hn] at st
      rw [st]
      rcases hlf with z | z | z <;> subst z
      · match xs, hn with
        | f :: x :: y :: r, _ =>
          rw [exSs_cons, exS_iff_f (by rw [lt1]; rfl), exSs_nil, seqS_nx, exSs_cons, exS_iff_t (st1 := []) (by rw [lt2]; simp), la2 hp, seqS_rt]
          rfl
      · match xs, hn with
        | f :: x :: y :: r, _ =>
          rw [exSs_cons, exS_iff_f (by rw [lt1]; rfl), exSs_nil, seqS_nx, exSs_cons, exS_iff_f (by rw [lt2]; rfl), exSs_nil, seqS_nx, exSs_cons, exS_iff_t (st1 := []) (by rw [lt3]; simp), la3 hp, seqS_rt]
          rfl
      · match xs, hn with
        | f :: r, _ =>
          rw [exSs_cons, exS_iff_t (st1 := []) (by rw [lt1]; simp), la1 hp, seqS_rt]
          rfl
    · rw [if_neg hn] at st
      rw [st]
      have k1 : (decide (hd = 73) && decide (0 < xs.length)) = false := by
        by_cases z : hd = 73
        · rw [z] at hn; simp [need] at hn; simp [hn]
        · simp [z]
      have k2 : (decide (hd = 66) && decide (2 < xs.length)) = false := by
        by_cases z : hd = 66
        · rw [z] at hn; simp [need] at hn; simp; omega
        · simp [z]
      have k3 : (decide (hd = 67) && decide (2 < xs.length)) = false := by
        by_cases z : hd = 67
        · rw [z] at hn; simp [need] at hn; simp; omega
        · simp [z]
      rw [exSs_cons, exS_iff_f (by rw [lt1, k1]), exSs_nil, seqS_nx, exSs_cons, exS_iff_f (by rw [lt2, k2]), exSs_nil, seqS_nx, exSs_cons, exS_iff_f (by rw [lt3, k3]), exSs_nil, seqS_nx]
      obtain ⟨b4, b5, lp⟩ := lst_loop (S := S) (st := []) (h := hd) (xs := xs) (c0 := c.tree) (by omega) hp rcx xs [] none none rfl
      have hline : line = 16777216 := rfl
      have fv := forV_upto (n := xs.length) (by omega) (forStep S (.nm 3) tB) (lsl c.tree hd xs) []
      simp only [List.length_nil, List.nil_append] at lp
      rw [show ((0 : Nat) : Int) = 0 from rfl] at lp
      rw [lp] at fv
      have ln : evEs S [.bi .len [.var 2]] (lsl c.tree hd xs) [] = some (.ok [.pv (.int (xs.length : Nat))] []) := by simp
      rw [exSs_cons, exS_for, ln, Rs.bf_ok, fv]
      cases k : first step xs with
      | none => simp [opt]
      | some ys => simp [opt]
theorem lst_call {n : Nat} {c : Cd} (g : c.good) (h : c.many ≤ 300) (hn : c.many + 2 ≤ n) (st : Store) : (Pr.sem n).call 44 [.pv c.tree] st = some (.ok (.pv (opt (step c))) st) := call1 rfl (lst n c g h hn)
/-! ### run_code and the law's own run, with the number of steps -/
theorem crn_fuel : ∀ (n m : Nat) (c : Cd), c.good → c.many ≤ n → c.many ≤ m → crn n c = crn m c
  | 0, _, c, _, h, _ => by have := many_pos c; omega
  | _ + 1, 0, c, _, _, h => by have := many_pos c; omega
  | n + 1, m + 1, c, g, h1, h2 => by
    unfold crn
    cases e : step c with
    | none => rfl
    | some d =>
      have := step_many e g
      simp only
      rw [crn_fuel n m d this.2 (by omega) (by omega)]
/-- all codes on the way -/
def runs (c : Cd) : List Cd := crn c.many c
theorem runs_none {c : Cd} (h : step c = none) : runs c = [c] := by
  unfold runs
  obtain ⟨n, hn⟩ : ∃ n, c.many = n + 1 := ⟨c.many - 1, by have := many_pos c; omega⟩
  rw [hn]
  simp only [crn, h]
theorem runs_some {c d : Cd} (g : c.good) (h : step c = some d) : runs c = c :: runs d := by
  have k := step_many h g
  have : runs c = c :: crn d.many d := by
    unfold runs
    rw [← k.1]
    simp only [crn, h]
  exact this
def nst (c : Cd) : Nat := (runs c).length - 1
theorem runs_pos : ∀ c : Cd, 0 < (runs c).length := fun c => by
  unfold runs
  obtain ⟨n, hn⟩ : ∃ n, c.many = n + 1 := ⟨c.many - 1, by have := many_pos c; omega⟩
  rw [hn]
  unfold crn
  split <;> simp
theorem nst_none {c : Cd} (h : step c = none) : nst c = 0 := by unfold nst; rw [runs_none h]; rfl
theorem nst_some {c d : Cd} (g : c.good) (h : step c = some d) : nst c = nst d + 1 := by
  unfold nst
  rw [runs_some g h]
  have := runs_pos d
  simp only [List.length_cons]
  omega
theorem nst_lt : ∀ (n : Nat) (c : Cd), c.many ≤ n → c.good → nst c < c.many
  | 0, c, h, _ => by have := many_pos c; omega
  | n + 1, c, h, g => by
    cases e : step c with
    | none => rw [nst_none e]; exact many_pos c
    | some d =>
      obtain ⟨q1, q2⟩ := step_many e g
      have := nst_lt n d (by omega) q2
      rw [nst_some g e]
      omega
abbrev rcB : List MS := [.iff (.cmp .eq (.var 2) (.var 1)) [.raise 3 [.var 1]] [], .asg (.nm 0) (.var 3), .aug 2 .add (.lit (.int 1)), .asg (.nm 3) (.call 23 [.var 0])]
theorem rc_ok {S : Sem} {st : Store} {M N : Nat} (hs : ∀ (c : Cd) (st : Store), c.good → c.many ≤ N → S.call 23 [.pv c.tree] st = some (.ok (.pv (opt (step c))) st)) : ∀ (n : Nat) (c : Cd) (k : Nat), c.good → c.many ≤ N → c.many ≤ n → k + nst c ≤ M →
    whLoop (evT S (.isn true (.var 3))) (exSs S rcB) n [some (.pv c.tree), some (.pv (.int (M : Nat))), some (.pv (.int (k : Nat))), some (.pv (opt (step c)))] st = some (.nx [some (.pv (fin c).tree), some (.pv (.int (M : Nat))), some (.pv (.int (k + nst c : Nat))), some (.pv .non)] st)
  | 0, c, _, _, _, h, _ => by have := many_pos c; omega
  | n + 1, c, k, g, h1, h2, h3 => by
    cases e : step c with
    | none =>
      rw [fin_none e, nst_none e]
      exact whLoop_false (isn_n rfl)
    | some d =>
      obtain ⟨q1, q2⟩ := step_many e g
      have ns := nst_some g e
      have ih := rc_ok (S := S) (st := st) (M := M) hs n d (k + 1) q2 (by omega) (by omega) (by omega)
      have hk : ¬ ((k : Int) = (M : Int)) := by omega
      have hd := hs d st q2 (by omega)
      rw [fin_step g e]
      rw [whLoop_true (φ' := [some (.pv d.tree), some (.pv (.int (M : Nat))), some (.pv (.int ((k + 1 : Nat) : Int))), some (.pv (opt (step d)))]) (st1 := st) (st' := st) (isn_t rfl) (by simp [opt, hk, hd, doAug])]
      rw [ih, ns, show k + 1 + nst d = k + (nst d + 1) by omega]
theorem whLoop_exc {c : Slots → Store → Option ET} {b : Slots → Store → Option FR} {n : Nat} {φ φ' : Slots} {st st1 st' : Store} {v : Ex} (h : c φ st = some (.ok true st1)) (h2 : b φ st1 = some (.ex v φ' st')) : whLoop c b (n + 1) φ st = some (.ex v φ' st') := by
  simp [whLoop, h, h2, T.bf]
theorem rc_many {S : Sem} {st : Store} {M N : Nat} (hx : S.xin 3 = some (1, [(0, 0)])) (hs : ∀ (c : Cd) (st : Store), c.good → c.many ≤ N → S.call 23 [.pv c.tree] st = some (.ok (.pv (opt (step c))) st)) : ∀ (n : Nat) (c : Cd) (k : Nat), c.good → c.many ≤ N → c.many ≤ n → k ≤ M → M < k + nst c →
    ∃ φ', whLoop (evT S (.isn true (.var 3))) (exSs S rcB) n [some (.pv c.tree), some (.pv (.int (M : Nat))), some (.pv (.int (k : Nat))), some (.pv (opt (step c)))] st = some (.ex ⟨3, [(0, .int (M : Nat))]⟩ φ' st)
  | 0, c, _, _, _, h, _, _ => by have := many_pos c; omega
  | n + 1, c, k, g, h1, h2, h3, h4 => by
    cases e : step c with
    | none => rw [nst_none e] at h4; omega
    | some d =>
      by_cases z : k = M
      · subst z
        exact ⟨_, whLoop_exc (isn_t rfl) (by simp [hx, extP]; rfl)⟩
      · obtain ⟨q1, q2⟩ := step_many e g
        have ns := nst_some g e
        obtain ⟨φ', ih⟩ := rc_many (S := S) (st := st) (M := M) hx hs n d (k + 1) q2 (by omega) (by omega) (by omega) (by omega)
        have hk : ¬ ((k : Int) = (M : Int)) := by omega
        have hd := hs d st q2 (by omega)
        refine ⟨φ', ?_⟩
        rw [whLoop_true (φ' := [some (.pv d.tree), some (.pv (.int (M : Nat))), some (.pv (.int ((k + 1 : Nat) : Int))), some (.pv (opt (step d)))]) (st1 := st) (st' := st) (isn_t rfl) (by simp [opt, hk, hd, doAug])]
        exact ih
section
variable {n : Nat} {c : Cd} {M : Nat} (g : c.good) (h : c.many ≤ 200) (hn : 202 ≤ n)
include g h hn
theorem run_in (hM : nst c ≤ M) (st : Store) : (Pr.sem (n + 1)).call 25 [.pv c.tree, .pv (.int (M : Nat))] st = some (.ok (.pv (.tup [(fin c).tree, .int (nst c : Nat)])) st) := by
  have hs := fun (c : Cd) (st : Store) (g : c.good) (h : c.many ≤ 200) => son_call (n := n) g (by omega) (by omega) st
  have e := rc_ok (S := Pr.sem n) (st := []) (M := M) hs 1000 c 0 g h (by omega) (by omega)
  refine call2 (st1 := []) rfl ?_
  rw [cal_eq Pr n 25 m25 _ _ rfl rfl]
  have hw : (Pr.sem n).wf = 1000 := rfl
  have h0 := hs c [] g h
  simp only [Int.ofNat_zero, Int.natCast_zero, Nat.zero_add] at e
  simp [m25, hw, h0, e]
theorem run_out (hM : M < nst c) (st : Store) : (Pr.sem (n + 1)).call 25 [.pv c.tree, .pv (.int (M : Nat))] st = some (.ex ⟨3, [(0, .int (M : Nat))]⟩ st) := by
  have hs := fun (c : Cd) (st : Store) (g : c.good) (h : c.many ≤ 200) => son_call (n := n) g (by omega) (by omega) st
  obtain ⟨φ', e⟩ := rc_many (S := Pr.sem n) (st := []) (M := M) rfl hs 1000 c 0 g h (by omega) (by omega) (by omega)
  refine callx2 (st1 := []) rfl ?_
  rw [cal_eq Pr n 25 m25 _ _ rfl rfl]
  have hw : (Pr.sem n).wf = 1000 := rfl
  have h0 := hs c [] g h
  simp only [Int.ofNat_zero, Int.natCast_zero] at e
  simp [m25, hw, h0, e]
end
/-! ### _law_run -/
abbrev rB : List MS := [.asg (.nm 3) (.call 44 [.idx (.var 1) (.neg (.lit (.int 1)))]), .iff (.isn true (.var 3)) [.ex (.bm .append (.var 1) [.var 3])] [.ret (.frz (.var 1))]]
theorem lrun_loop {S : Sem} {c0 : PV} {N : Nat} (hN : N ≤ 1000) (hs : ∀ (c : Cd) (st : Store), c.good → c.many ≤ N → S.call 44 [.pv c.tree] st = some (.ok (.pv (opt (step c))) st)) : ∀ (xs : List PV) (c : Cd) (L : List Cd) (a2 a3 : Option LV), c.good → c.many ≤ N → nst c < xs.length → L.length + c.many ≤ N →
    ∃ (st' : Store), forLoop (forStep S (.nm 2) rB) xs [some (.pv c0), some (.ref 0), a2, a3] [.lst true ((trs (L ++ [c])).map .pv)] = some (.rt (.pv (.lst (trs (L ++ runs c)))) st')
  | [], c, _, _, _, _, _, h, _ => by simp at h
  | x :: xs, c, L, a2, a3, g, h1, h2, h3 => by
    have q := hs c [.lst true ((trs (L ++ [c])).map .pv)] g h1
    have ix : getI (.ref 0) (.pv (.int (-1))) [.lst true ((trs (L ++ [c])).map .pv)] = some (.ok (.pv c.tree) [.lst true ((trs (L ++ [c])).map .pv)]) := getI_ref (r := 0) rfl (by simp only [trs, List.map_append, List.map_cons, List.map_nil]; exact atI_last _ _)
    rw [forLoop_cons]
    cases e : step c with
    | none =>
      rw [e] at q
      have fz := frz_ref (st := [.lst true ((trs (L ++ [c])).map .pv)]) (r := 0) (b := true) (ps := trs (L ++ [c])) rfl
      rw [runs_none e]
      refine ⟨[.lst false ((trs (L ++ [c])).map .pv)], ?_⟩
      have e1 : forStep S (.nm 2) rB x [some (.pv c0), some (.ref 0), a2, a3] [.lst true ((trs (L ++ [c])).map .pv)] = some (.rt (.pv (.lst (trs (L ++ [c])))) [.lst false ((trs (L ++ [c])).map .pv)]) := by
        generalize trs (L ++ [c]) = T at *
        simp [forStep, ix, q, opt, fz]
      rw [e1]
    | some d =>
      rw [e] at q
      obtain ⟨q1, q2⟩ := step_many e g
      have ns := nst_some g e
      have := many_pos d
      simp only [List.length_cons] at h2
      obtain ⟨st', ih⟩ := lrun_loop (S := S) (c0 := c0) hN hs xs d (L ++ [c]) (some (.pv x)) (some (.pv d.tree)) q2 (by omega) (by omega) (by simp; omega)
      rw [runs_some g e]
      refine ⟨st', ?_⟩
      have it := isn_t (S := S) (st := [.lst true ((trs (L ++ [c])).map .pv)]) (c := d) (i := 3) (φ := [some (.pv c0), some (.ref 0), some (.pv x), some (.pv d.tree)]) rfl
      have hline : line = 16777216 := rfl
      have ap := do_append (st := [.lst true ((trs (L ++ [c])).map .pv)]) (r := 0) (v := .pv d.tree) (L := (trs (L ++ [c])).map .pv) rfl (by simp; omega)
      have bo := bm_append (st := [.lst true ((trs (L ++ [c])).map .pv)]) (r := 0) (b := true) (L := (trs (L ++ [c])).map .pv) rfl
      have e1 : forStep S (.nm 2) rB x [some (.pv c0), some (.ref 0), a2, a3] [.lst true ((trs (L ++ [c])).map .pv)] = some (.nx [some (.pv c0), some (.ref 0), some (.pv x), some (.pv d.tree)] [.lst true ((trs (L ++ [c])).map .pv ++ [.pv d.tree])]) := by
        generalize (trs (L ++ [c])).map LV.pv = T at *
        simp [forStep, ix, q, opt, -evT_isn, it, bo, ap]
      rw [e1]
      have e2 : (trs (L ++ [c])).map LV.pv ++ [.pv d.tree] = (trs ((L ++ [c]) ++ [d])).map LV.pv := by simp
      rw [e2]
      have e3 : L ++ c :: runs d = (L ++ [c]) ++ runs d := by simp
      rw [e3]
      exact ih
theorem lrun {n : Nat} {c : Cd} (g : c.good) (h : c.many ≤ 200) (hn : 202 ≤ n) (st : Store) : (Pr.sem (n + 1)).call 45 [.pv c.tree] st = some (.ok (.pv (.lst (trs (runs c)))) st) := by
  have hs := fun (c : Cd) (st : Store) (g : c.good) (h : c.many ≤ 200) => lst_call (n := n) g (by omega) (by omega) st
  have hlen : ((upto 0 200).map PV.int).length = 200 := by rw [List.length_map, upto_length]
  have nl := nst_lt c.many c (Nat.le_refl _) g
  obtain ⟨st1, e⟩ := lrun_loop (S := Pr.sem n) (c0 := c.tree) (by omega) hs ((upto 0 200).map .int) c [] none none g h (by rw [hlen]; omega) (by simp; omega)
  refine call1 (st1 := st1) rfl ?_
  rw [cal_eq Pr n 45 m45 _ _ rfl rfl]
  have fv := forV_upto (n := 200) (by decide) (forStep (Pr.sem n) (.nm 2) rB) [some (.pv c.tree), some (.ref 0), none, none] [.lst true ((trs ([] ++ [c])).map .pv)]
  rw [e] at fv
  have ml : mkLst true [.pv c.tree] [] = some (.ok (.ref 0) [.lst true [.pv c.tree]]) := mkLst_live [.pv c.tree] line1
  simp [m45, ml] at fv ⊢
  simp [fv]
end Z51
end

section
namespace Z51
open Z
/-! ### the program's own term of a code -/
def nm4 (k : Nat) : Sg := [97 + k / 17576 % 26, 97 + k / 676 % 26, 97 + k / 26 % 26, 97 + k % 26]
theorem nm4_inj {i j : Nat} (hi : i < 456976) (hj : j < 456976) (h : nm4 i = nm4 j) : i = j := by
  simp only [nm4, List.cons.injEq, and_true] at h
  omega
theorem nm_turn {n : Nat} {st : Store} (k : Nat) (s : Sg) (hs : s.length < 10) (x : PV) (a : Option LV) : forStep (Pr.sem n) (.nm 2) [.asg (.nm 1) (.bin .add (.idx (.glb 4) (.bin .mod (.var 0) (.bi .len [.glb 4]))) (.var 1)), .asg (.nm 0) (.bin .fdiv (.var 0) (.bi .len [.glb 4]))] x [some (.pv (.int (k : Nat))), some (.pv (.str s)), a] st = some (.nx [some (.pv (.int (k / 26 : Nat))), some (.pv (.str ((97 + k % 26) :: s))), some (.pv x)] st) := by
  have ln : doBI .len [.str abc] = some (.int 26) := rfl
  have i2 := abc_get (k % 26) (by omega)
  have e2 : ((k % 26 : Nat) : Int) = (k : Int) % 26 := by omega
  rw [e2] at i2
  have d2 : doBin .mod (.int (k : Int)) (.int 26) = some (.int ((k : Int) % 26)) := rfl
  have d1 : doBin .fdiv (.int (k : Int)) (.int 26) = some (.int ((k : Int) / 26)) := rfl
  have hline : line = 16777216 := rfl
  have c1 : doBin .add (.str [97 + k % 26]) (.str s) = some (.str ((97 + k % 26) :: s)) := by
    simp only [doBin]; rw [if_pos (by simp; omega)]; rfl
  have gl : (Pr.sem n).glb 4 = some (.str abc) := rfl
  simp [forStep, gl, ln, d1, d2, i2, c1]
theorem name_of_ {n : Nat} (k : Nat) (st : Store) : (Pr.sem (n + 1)).call 16 [.pv (.int (k : Nat))] st = some (.ok (.pv (.str (nm4 k))) st) := by
  refine call1 (st1 := []) rfl ?_
  rw [cal_eq Pr n 16 m16 _ _ rfl rfl]
  have fv := forV_upto (n := 4) (by decide) (forStep (Pr.sem n) (.nm 2) [.asg (.nm 1) (.bin .add (.idx (.glb 4) (.bin .mod (.var 0) (.bi .len [.glb 4]))) (.var 1)), .asg (.nm 0) (.bin .fdiv (.var 0) (.bi .len [.glb 4]))]) [some (.pv (.int (k : Nat))), some (.pv (.str [])), none] []
  have hu : (upto 0 4).map PV.int = [.int 0, .int 1, .int 2, .int 3] := rfl
  rw [hu, forLoop_cons, nm_turn k [] (by simp)] at fv
  simp only at fv
  rw [forLoop_cons, nm_turn _ _ (by simp)] at fv
  simp only at fv
  rw [forLoop_cons, nm_turn _ _ (by simp)] at fv
  simp only at fv
  rw [forLoop_cons, nm_turn _ _ (by simp)] at fv
  have e1 : k / 26 / 26 = k / 676 := by omega
  have e2 : k / 676 / 26 = k / 17576 := by omega
  simp only [e1, e2] at fv
  unfold nm4
  simp [m16, forLoop] at fv ⊢
  simp [fv]
theorem jterm {n : Nat} {j k : Nat} (hl : lf j) (st : Store) : (Pr.sem (n + 2)).call 17 [.pv (.str [j]), .pv (.int (k : Nat))] st = some (.ok (.pv (jT j (nm4 k) (nm4 (k + 1)) (nm4 (k + 2))).tree) st) := by
  refine call2 (st1 := []) rfl ?_
  rw [cal_eq Pr (n + 1) 17 m17 _ _ rfl rfl]
  have n0 := fun (i : Nat) => name_of_ (n := n) (k + i) []
  have st1 : ∀ x ∈ (upto 0 3).map PV.int, lcStep (Pr.sem (n + 1)) (.tup [.lit (.str [118, 97, 114]), .call 16 [.bin .add (.var 1) (.var 6)]]) (.nm 6) [] [6] [some (.pv (.str [j])), some (.pv (.int (k : Nat))), none, none, none, none, none] x [] = some (.ok ((fun x : PV => match x with
      | .int i => [LV.pv (.tup [.str [118, 97, 114], .str (nm4 (k + i.toNat))])]
      | _ => []) x) []) := by
    intro x hx
    have hx' : x = .int ((0 : Nat) : Int) ∨ x = .int ((1 : Nat) : Int) ∨ x = .int ((2 : Nat) : Int) := by
      have hu : (upto 0 3).map PV.int = [.int 0, .int 1, .int 2] := rfl
      rw [hu] at hx
      simpa using hx
    rcases hx' with z | z | z <;> subst z
    · have q := n0 0
      simp only [Nat.add_zero] at q
      simp [lcStep, wipeL, q]
    · have q := n0 1
      have ek : ((k + 1 : Nat) : Int) = (k : Int) + 1 := by push_cast; rfl
      rw [ek] at q
      simp [lcStep, wipeL, q]
    · have q := n0 2
      have ek : ((k + 2 : Nat) : Int) = (k : Int) + 2 := by push_cast; rfl
      rw [ek] at q
      simp [lcStep, wipeL, q]
  have lc := lcV_upto (live := false) (n := 3) (by decide) (lcLoop_pure st1)
  have hu : (upto 0 3).map PV.int = [.int 0, .int 1, .int 2] := rfl
  rw [hu] at lc
  have mk : mkLst false [LV.pv (.tup [.str [118, 97, 114], .str (nm4 k)]), LV.pv (.tup [.str [118, 97, 114], .str (nm4 (k + 1))]), LV.pv (.tup [.str [118, 97, 114], .str (nm4 (k + 2))])] [] = some (.ok (.pv (.lst [.tup [.str [118, 97, 114], .str (nm4 k)], .tup [.str [118, 97, 114], .str (nm4 (k + 1))], .tup [.str [118, 97, 114], .str (nm4 (k + 2))]])) []) := mkLst_pv (ps := [.tup [.str [118, 97, 114], .str (nm4 k)], .tup [.str [118, 97, 114], .str (nm4 (k + 1))], .tup [.str [118, 97, 114], .str (nm4 (k + 2))]]) (by have hline : line = 16777216 := rfl; rw [hline]; simp)
  simp only [List.flatMap_cons, List.flatMap_nil, List.append_nil, List.cons_append, List.nil_append, show (0 : Int).toNat = 0 from rfl, show (1 : Int).toNat = 1 from rfl, show (2 : Int).toNat = 2 from rfl, Nat.add_zero, mk] at lc
  generalize nm4 k = a at *
  generalize nm4 (k + 1) = b at *
  generalize nm4 (k + 2) = c at *
  unfold jT
  rcases hl with z | z | z <;> subst z
  · simp [m17, Tm.tree] at lc ⊢
    simp [lc]
  · simp [m17, Tm.tree] at lc ⊢
    simp [lc]
  · simp [m17, Tm.tree] at lc ⊢
    simp [lc]
theorem whole_of : ∀ (c : Cd) (n k : Nat), c.good → c.dep + 4 ≤ n → Pr.cal n 18 [.pv c.tree, .pv (.int (k : Nat))] [] = some (.ok (.pv (nP (tT true nm4 c k))) [])
  | .leaf j, n, k, g, h => by
    obtain ⟨n, rfl⟩ : ∃ m, n = m + 3 := ⟨n - 3, by omega⟩
    rw [cal_eq Pr (n + 2) 18 m18 _ _ rfl rfl]
    have q := jterm (n := n) (j := j) (k := k) g []
    have u := use_leaf (n := n + 1) (st := []) j
    simp only [nP, tT, Bool.not_true, Bool.and_false, Bool.false_eq_true, if_false]
    generalize (jT j (nm4 k) (nm4 (k + 1)) (nm4 (k + 2))).tree = T at *
    simp [m18, Cd.tree, q, u]
  | .node a b, n, k, g, h => by
    simp only [Cd.dep] at h
    obtain ⟨n, rfl⟩ : ∃ m, n = m + 2 := ⟨n - 2, by omega⟩
    rw [cal_eq Pr (n + 1) 18 m18 _ _ rfl rfl]
    have q1 := call2 (P := Pr) (f := 18) (st := []) rfl (whole_of a (n + 1) k g.1 (by omega))
    have q2 := call2 (P := Pr) (f := 18) (st := []) rfl (whole_of b (n + 1) (tT true nm4 a k).2 g.2 (by omega))
    have u := use_node (n := n) (st := []) a.tree b.tree
    simp only [nP, tT, Tm.tree] at q1 q2 ⊢
    generalize (tT true nm4 a k).1.tree = A at *
    generalize hk : (tT true nm4 a k).2 = k2 at *
    generalize (tT true nm4 b k2).1.tree = B at *
    generalize (tT true nm4 b k2).2 = k3 at *
    simp [m18, Cd.tree, q1, q2, u]
theorem nm4_ok : ∀ i < 456976, ∀ j < 456976, nm4 i = nm4 j → i = j := fun i hi j hj h => nm4_inj hi hj h
/-- term_of_code: the plain end of the code's term -/
theorem term_of {c : Cd} (g : c.good) (hc : c.many ≤ 130) {n : Nat} (hn : 6 * c.many + 12 ≤ n) (st : Store) : ∃ u, (Pr.sem n).call 19 [.pv c.tree] st = some (.ok (.pv (plain u).tree) st) ∧ Rds (tT true nm4 c 0).1 u ∧ nrT u := by
  have T := tT_ok (w := true) (s := nm4) (M := 456976) nm4_ok c 0 (by omega)
  obtain ⟨n, rfl⟩ : ∃ m, n = m + 2 := ⟨n - 2, by omega⟩
  have fl := T.fl
  obtain ⟨u, s1, e1, r1, n1⟩ := ended_of (n := n + 1) T.lc (by omega) (by omega)
  have L := (T.lc.rds r1)
  have dl := L.1.dep_le
  have := L.2.2
  obtain ⟨s2, e2⟩ := plain_of u (n + 1) (by omega) (by omega)
  refine ⟨u, call1 (st1 := []) rfl ?_, r1, n1⟩
  rw [cal_eq Pr (n + 1) 19 m19 _ _ rfl rfl]
  have dm := c.dep_many
  have w := call2 (P := Pr) (f := 18) (st := []) rfl (whole_of c (n + 1) 0 g (by omega))
  have e1' := call1 (P := Pr) (f := 11) (st := []) rfl e1
  have e2' := call1 (P := Pr) (f := 2) (st := []) rfl e2
  simp only [nP] at w
  generalize (tT true nm4 c 0).1.tree = T1 at *
  generalize (plain u).tree = T2 at *
  generalize u.tree = T3 at *
  rw [show ((0 : Nat) : Int) = 0 from rfl] at w
  simp [m19, w, e1', e2']
end Z51
end

section
namespace Z51
open Z
/-! ### the law's own term of a code -/
def rest (s : Nat → Sg) (N k : Nat) : List Sg := (List.range (N - k)).map fun i => s (N - 1 - i)
theorem rest_pop (s : Nat → Sg) {N k : Nat} (h : k < N) : rest s N k = rest s N (k + 1) ++ [s k] := by
  obtain ⟨m, hm⟩ : ∃ m, N - k = m + 1 := ⟨N - k - 1, by omega⟩
  have h1 : N - (k + 1) = m := by omega
  have h2 : N - 1 - m = k := by omega
  simp only [rest, hm, h1, List.range_succ, List.map_append, List.map_cons, List.map_nil, h2]
theorem rest_len (s : Nat → Sg) (N k : Nat) : (rest s N k).length = N - k := by simp [rest]
theorem pop_rest {st : Store} {r : Nat} {s : Nat → Sg} {N k : Nat} (h : st[r]? = some (L (rest s N k))) (hk : k < N) : bmOk .pop0 (.ref r) st = true ∧ doBM .pop0 (.ref r) [] st = some (.ok (.pv (.str (s k))) (st.set r (L (rest s N (k + 1))))) := by
  rw [rest_pop s hk] at h
  have h' : st[r]? = some (.lst true ((rest s N (k + 1)).map (fun x => LV.pv (.str x)) ++ [.pv (.str (s k))])) := by
    rw [h]; simp [L]
  refine ⟨bm_pop h', ?_⟩
  rw [do_pop h']
  simp only [L, List.map_map]
  rfl
theorem told_of {s : Nat → Sg} {N : Nat} : ∀ (c : Cd) (n k r : Nat) (st : Store), c.good → c.dep + 1 ≤ n → k + 3 * c.many ≤ N → st[r]? = some (L (rest s N k)) → Pr.cal n 39 [.pv c.tree, .ref r] st = some (.ok (.pv (tT false s c k).1.tree) (st.set r (L (rest s N (tT false s c k).2))))
  | .leaf j, n, k, r, st, g, h, hN, hr => by
    simp only [Cd.many] at hN
    obtain ⟨n, rfl⟩ : ∃ m, n = m + 1 := ⟨n - 1, by omega⟩
    rw [cal_eq Pr n 39 m39 _ _ rfl rfl]
    have hlt : r < st.length := (List.getElem?_eq_some_iff.mp hr).1
    obtain ⟨b1, p1⟩ := pop_rest hr (by omega)
    have r1 : (st.set r (L (rest s N (k + 1))))[r]? = some (L (rest s N (k + 1))) := by rw [List.getElem?_set_self hlt]
    obtain ⟨b2, p2⟩ := pop_rest r1 (by omega)
    rw [List.set_set] at p2
    have r2 : (st.set r (L (rest s N (k + 1 + 1))))[r]? = some (L (rest s N (k + 1 + 1))) := by rw [List.getElem?_set_self hlt]
    obtain ⟨b3, p3⟩ := pop_rest r2 (by omega)
    rw [List.set_set] at p3
    simp only [tT, Bool.not_false, Bool.and_true]
    have gl : lf j := g
    generalize s k = a at *
    generalize s (k + 1) = b at *
    have es : s (k + 1 + 1) = s (k + 2) := rfl
    rw [es] at p3
    generalize s (k + 2) = c at *
    rcases gl with z | z | z <;> subst z
    · simp only [show decide ((66 : Nat) = 73) = false from rfl, Bool.false_eq_true, if_false]
      have ek : k + 3 = k + 1 + 1 + 1 := rfl
      rw [ek]
      generalize st.set r (L (rest s N (k + 1 + 1 + 1))) = S3 at *
      generalize st.set r (L (rest s N (k + 1 + 1))) = S2 at *
      generalize st.set r (L (rest s N (k + 1))) = S1 at *
      simp [m39, Cd.tree, isTy, b1, p1, b2, p2, b3, p3, jT, Tm.tree]
    · simp only [show decide ((67 : Nat) = 73) = false from rfl, Bool.false_eq_true, if_false]
      have ek : k + 3 = k + 1 + 1 + 1 := rfl
      rw [ek]
      generalize st.set r (L (rest s N (k + 1 + 1 + 1))) = S3 at *
      generalize st.set r (L (rest s N (k + 1 + 1))) = S2 at *
      generalize st.set r (L (rest s N (k + 1))) = S1 at *
      simp [m39, Cd.tree, isTy, b1, p1, b2, p2, b3, p3, jT, Tm.tree]
    · simp only [show decide ((73 : Nat) = 73) = true from rfl, if_true]
      simp [m39, Cd.tree, isTy, b1, p1, jT, Tm.tree]
  | .node a b, n, k, r, st, g, h, hN, hr => by
    simp only [Cd.many] at hN
    simp only [Cd.dep] at h
    obtain ⟨n, rfl⟩ : ∃ m, n = m + 1 := ⟨n - 1, by omega⟩
    rw [cal_eq Pr n 39 m39 _ _ rfl rfl]
    have hlt : r < st.length := (List.getElem?_eq_some_iff.mp hr).1
    obtain ⟨m1, m2, _⟩ := tT_num false s a k
    have q1 := call_len (P := Pr) (f := 39) rfl (told_of a n k r st g.1 (by omega) (by omega) hr) (by simp)
    have r1 : (st.set r (L (rest s N (tT false s a k).2)))[r]? = some (L (rest s N (tT false s a k).2)) := by rw [List.getElem?_set_self hlt]
    have q2 := call_len (P := Pr) (f := 39) rfl (told_of b n (tT false s a k).2 r _ g.2 (by omega) (by omega) r1) (by simp)
    rw [List.set_set] at q2
    simp only [tT, Tm.tree]
    generalize (tT false s a k).1.tree = A at *
    generalize hk : (tT false s a k).2 = k2 at *
    generalize (tT false s b k2).1.tree = B at *
    generalize st.set r (L (rest s N (tT false s b k2).2)) = S2 at *
    generalize st.set r (L (rest s N k2)) = S1 at *
    simp [m39, Cd.tree, isTy, q1, q2]
/-! ### the law's own meaning of a code -/
def nmn (k : Nat) : Sg := [110, 97 + k / 26, 97 + k % 26]
def nml (k : Nat) : Sg := nmn (675 - k)
theorem nml_ok : ∀ i < 676, ∀ j < 676, nml i = nml j → i = j := fun i hi j hj h => by
  simp only [nml, nmn, List.cons.injEq, and_true] at h
  omega
theorem nms_eq : (List.range 676).map nmn = rest nml 676 0 := by
  unfold rest
  apply List.map_congr_left
  intro i hi
  rw [List.mem_range] at hi
  unfold nml
  congr 1
  omega
theorem upto_range (n : Nat) : upto 0 n = (List.range n).map fun (i : Nat) => (i : Int) := by
  have : ∀ (n k : Nat), upto (k : Nat) n = (List.range n).map fun (i : Nat) => ((k + i : Nat) : Int) := by
    intro n
    induction n with
    | zero => intro k; rfl
    | succ n ih =>
      intro k
      have e := ih (k + 1)
      have ek : ((k + 1 : Nat) : Int) = (k : Int) + 1 := by push_cast; rfl
      rw [ek] at e
      rw [List.range_succ_eq_map]
      simp only [upto, e, List.map_cons, List.map_map, Nat.add_zero]
      congr 1
      apply List.map_congr_left
      intro i _
      simp only [Function.comp]
      congr 1
      omega
  have := this n 0
  simpa using this
theorem meaning_of {c : Cd} (g : c.good) (hc : c.many ≤ 130) {n : Nat} (hn : 6 * c.many + 12 ≤ n) (st : Store) : ∃ u, (Pr.sem n).call 40 [.pv c.tree] st = some (.ok (.pv (plain u).tree) st) ∧ Rds (tT false nml c 0).1 u ∧ nrT u := by
  have T := tT_ok (w := false) (s := nml) (M := 676) nml_ok c 0 (by omega)
  obtain ⟨n, rfl⟩ : ∃ m, n = m + 2 := ⟨n - 2, by omega⟩
  have fl := T.fl
  obtain ⟨u, e1, r1, n1⟩ := llast_of (n := n + 1) T.lc (by omega) (by omega)
  have LL := (T.lc.rds r1)
  have dl := LL.1.dep_le
  have sl := LL.1.size_le
  have := LL.2.2
  obtain ⟨s2, e2⟩ := lplain_of u (n + 1) (by omega) LL.1.1 (by omega) (by omega)
  have dm := c.dep_many
  have nms : (upto 0 676).flatMap (fun i => [LV.pv (.str (nmn i.toNat))]) = ((rest nml 676 0).map PV.str).map .pv := by
    rw [← nms_eq, upto_range]
    simp [List.flatMap_map, List.flatMap_def]
    rfl
  have stp1 : ∀ x ∈ (upto 0 676).map PV.int, lcStep (Pr.sem (n + 1)) (.bin .add (.bin .add (.lit (.str [110])) (.idx (.lit (.str [97, 98, 99, 100, 101, 102, 103, 104, 105, 106, 107, 108, 109, 110, 111, 112, 113, 114, 115, 116, 117, 118, 119, 120, 121, 122])) (.bin .fdiv (.var 2) (.lit (.int 26))))) (.idx (.lit (.str [97, 98, 99, 100, 101, 102, 103, 104, 105, 106, 107, 108, 109, 110, 111, 112, 113, 114, 115, 116, 117, 118, 119, 120, 121, 122])) (.bin .mod (.bi .int [.var 2]) (.lit (.int 26))))) (.nm 2) [] [2] [some (.pv c.tree), none, none] x [] = some (.ok ((fun x : PV => match x with
      | .int i => [LV.pv (.str (nmn i.toNat))]
      | _ => []) x) []) := by
    intro x hx
    rw [upto_range, List.map_map, List.mem_map] at hx
    obtain ⟨k, hk, e⟩ := hx
    rw [List.mem_range] at hk
    subst e
    have i1 := abc_get (k / 26) (by omega)
    have i2 := abc_get (k % 26) (by omega)
    have e1 : ((k / 26 : Nat) : Int) = (k : Int) / 26 := by omega
    have e2 : ((k % 26 : Nat) : Int) = (k : Int) % 26 := by omega
    rw [e1] at i1
    rw [e2] at i2
    have d1 : doBin .fdiv (.int (k : Int)) (.int 26) = some (.int ((k : Int) / 26)) := rfl
    have d2 : doBin .mod (.int (k : Int)) (.int 26) = some (.int ((k : Int) % 26)) := rfl
    have c1 : doBin .add (.str [110]) (.str [97 + k / 26]) = some (.str [110, 97 + k / 26]) := rfl
    have c2 : doBin .add (.str [110, 97 + k / 26]) (.str [97 + k % 26]) = some (.str [110, 97 + k / 26, 97 + k % 26]) := rfl
    have bi : ∀ i : Int, doBI .int [.int i] = some (.int i) := fun _ => rfl
    simp [lcStep, wipeL, nmn, i1, i2, d1, d2, c1, c2, bi]
  have lc := lcV_upto (live := true) (n := 676) (by decide) (lcLoop_pure stp1)
  rw [List.flatMap_map] at lc
  have hline : line = 16777216 := rfl
  have ml := mkLst_live (st := []) (((rest nml 676 0).map PV.str).map .pv) (by rw [List.length_map, List.length_map, rest_len]; omega)
  have lc' := lc.trans ((congrArg (fun v => mkLst true v []) nms).trans ml)
  have q := call_len (P := Pr) (f := 39) (n := n + 1) rfl (told_of (s := nml) (N := 676) c (n + 1) 0 0 [L (rest nml 676 0)] g (by omega) (by omega) rfl) (by simp)
  have e1' := fun st => call1 (P := Pr) (f := 31) (st := st) rfl e1
  have e2' := fun st => call1 (P := Pr) (f := 32) (st := st) rfl e2
  refine ⟨u, call1 (st1 := [L (rest nml 676 (tT false nml c 0).2)]) rfl ?_, r1, n1⟩
  rw [cal_eq Pr (n + 1) 40 m40 _ _ rfl rfl]
  have hL : [Cell.lst true (((rest nml 676 0).map PV.str).map .pv)] = [L (rest nml 676 0)] := rfl
  rw [show (Option.some (ER.ok (LV.ref ([] : Store).length) ([] ++ [Cell.lst true (((rest nml 676 0).map PV.str).map .pv)]))) = some (.ok (.ref 0) [L (rest nml 676 0)]) from rfl] at lc'
  have hq : ([L (rest nml 676 0)] : Store).set 0 (L (rest nml 676 (tT false nml c 0).2)) = [L (rest nml 676 (tT false nml c 0).2)] := rfl
  rw [hq] at q
  generalize (tT false nml c 0).1.tree = T1 at *
  generalize (plain u).tree = T2 at *
  generalize u.tree = T3 at *
  generalize [L (rest nml 676 (tT false nml c 0).2)] = S2 at *
  generalize [L (rest nml 676 0)] = S1 at *
  have mu : doBin .mul (.int 26) (.int 26) = some (.int 676) := rfl
  rw [show ((676 : Nat) : Int) = 676 from rfl] at lc'
  simp [m40, mu, lc', q, e1', e2']
end Z51
end

section
namespace Z51
open Z
/-! ### terms put together of pieces -/
abbrev Pc := Tm × List Sg
def pcT (p : Pc) : PV := .tup [p.1.tree, .lst (p.2.map .str)]
def sm (f : Pc → Nat) (ps : List Pc) : Nat := (ps.map f).sum
@[simp] theorem sm_nil (f : Pc → Nat) : sm f [] = 0 := rfl
@[simp] theorem sm_cons (f : Pc → Nat) (p : Pc) (ps : List Pc) : sm f (p :: ps) = f p + sm f ps := by simp [sm]
@[simp] theorem sm_app (f : Pc → Nat) (ps qs : List Pc) : sm f (ps ++ qs) = sm f ps + sm f qs := by simp [sm]
theorem sm_mem {f : Pc → Nat} {p : Pc} {ps : List Pc} (h : p ∈ ps) : f p ≤ sm f ps := by
  obtain ⟨a, b, e⟩ := List.append_of_mem h
  rw [e, sm_app, sm_cons]
  omega
theorem sm_one (ps : List Pc) : sm (fun _ => 1) ps = ps.length := by
  induction ps with
  | nil => rfl
  | cons p ps ih => rw [sm_cons, ih, List.length_cons]; omega
structure PO (p : Pc) : Prop where
  cl : p.1.cl p.2
  eq : ∀ y, cn y p.1.names = cn y p.1.funs + cn y p.2
  two : ∀ y ∈ p.1.names, y.length = 2
structure PI (m : Nat) (ps : List Pc) : Prop where
  ne : ps ≠ []
  po : ∀ p ∈ ps, PO p
  one : ∀ y, sm (fun p => cn y p.1.names) ps ≤ 1
  vs : sm (fun p => p.1.names.length) ps = m
  ns : sm (fun p => p.2.length) ps ≤ m
  ln : ps.length ≤ m
theorem cn_filter (x y : Sg) : ∀ l : List Sg, cn y (l.filter fun z => decide (z ≠ x)) = if y = x then 0 else cn y l
  | [] => by simp [cn_nil]
  | z :: l => by
    have ih := cn_filter x y l
    rw [List.filter_cons]
    by_cases hz : z = x
    · rw [if_neg (by simp [hz]), ih, cn_cons]
      by_cases hy : y = x
      · rw [if_pos hy, if_pos hy]
      · rw [if_neg hy, if_neg hy, if_neg (fun e => hy (e.symm.trans hz))]
        omega
    · rw [if_pos (by simp [hz]), cn_cons, ih, cn_cons]
      by_cases hy : y = x
      · rw [if_pos hy, if_pos hy, if_neg (fun e => hz (e.trans hy))]
      · rw [if_neg hy, if_neg hy]
def pfun (x : Sg) (p : Pc) : Pc := (.fn x p.1, p.2.filter fun z => decide (z ≠ x))
theorem pfun_ok {p : Pc} {x : Sg} (h : PO p) (hx : x ∈ p.2) (one : ∀ y, cn y p.1.names ≤ 1) : PO (pfun x p) := by
  refine ⟨?_, fun y => ?_, h.two⟩
  · show p.1.cl (x :: p.2.filter fun z => decide (z ≠ x))
    exact p.1.cl_mono (fun y hy => by
      by_cases e : y = x
      · exact List.mem_cons.mpr (.inl e)
      · exact List.mem_cons.mpr (.inr (List.mem_filter.mpr ⟨hy, by simp [e]⟩))) h.cl
  · have e := h.eq y
    have ex := h.eq x
    have o := one x
    have p1 : 0 < cn x p.2 := cn_pos.mpr hx
    show cn y p.1.names = cn y (x :: p.1.funs) + cn y (p.2.filter fun z => decide (z ≠ x))
    rw [cn_cons, cn_filter]
    by_cases hy : y = x
    · subst hy
      rw [if_pos rfl, if_pos rfl]
      omega
    · rw [if_neg hy, if_neg (fun z => hy z.symm)]
      omega
def mer (p q : Pc) : Pc := (.use p.1 q.1, p.2 ++ q.2)
theorem mer_ok {p q : Pc} (h : PO p) (k : PO q) : PO (mer p q) := by
  refine ⟨⟨?_, ?_⟩, fun y => ?_, fun y hy => ?_⟩
  · exact p.1.cl_mono (fun y hy => List.mem_append.mpr (.inl hy)) h.cl
  · exact q.1.cl_mono (fun y hy => List.mem_append.mpr (.inr hy)) k.cl
  · have := h.eq y
    have := k.eq y
    show cn y (p.1.names ++ q.1.names) = cn y (p.1.funs ++ q.1.funs) + cn y (p.2 ++ q.2)
    rw [cn_app, cn_app, cn_app]
    omega
  · rcases List.mem_append.mp (show y ∈ p.1.names ++ q.1.names from hy) with z | z
    · exact h.two y z
    · exact k.two y z
theorem PI.fun_ {m : Nat} {l r : List Pc} {p : Pc} {x : Sg} (h : PI m (l ++ p :: r)) (hx : x ∈ p.2) : PI m (l ++ pfun x p :: r) := by
  have hp := h.po p (by simp)
  have o : ∀ y, cn y p.1.names ≤ 1 := fun y => Nat.le_trans (sm_mem (f := fun p => cn y p.1.names) (ps := l ++ p :: r) (by simp)) (h.one y)
  refine ⟨by simp, fun q hq => ?_, fun y => ?_, ?_, ?_, ?_⟩
  · rcases List.mem_append.mp hq with z | z
    · exact h.po q (by simp [z])
    · rcases List.mem_cons.mp z with z | z
      · rw [z]; exact pfun_ok hp hx o
      · exact h.po q (by simp [z])
  · have := h.one y
    rw [sm_app, sm_cons] at this ⊢
    exact this
  · have := h.vs
    rw [sm_app, sm_cons] at this ⊢
    exact this
  · have := h.ns
    rw [sm_app, sm_cons] at this ⊢
    have : (pfun x p).2.length ≤ p.2.length := List.length_filter_le ..
    omega
  · have := h.ln
    simpa using this
/-! sums by places -/
def rs (g : Nat → Nat) : Nat → Nat
  | 0 => 0
  | n + 1 => rs g n + g n
theorem rs_congr {g g' : Nat → Nat} : ∀ {n : Nat}, (∀ k < n, g k = g' k) → rs g n = rs g' n
  | 0, _ => rfl
  | n + 1, h => by simp only [rs, rs_congr (fun k hk => h k (Nat.lt_succ_of_lt hk)), h n (Nat.lt_succ_self n)]
theorem rs_out {g : Nat → Nat} {a : Nat} : ∀ {n : Nat}, a < n → rs g n = rs (fun k => if k = a then 0 else g k) n + g a
  | 0, h => by omega
  | n + 1, h => by
    by_cases e : a = n
    · subst e
      have : rs g a = rs (fun k => if k = a then 0 else g k) a := rs_congr fun k hk => by rw [if_neg (by omega)]
      simp only [rs, if_true]
      omega
    · have ih := rs_out (g := g) (a := a) (n := n) (by omega)
      have e' : ¬ n = a := fun z => e z.symm
      simp only [rs, if_neg e']
      omega
theorem rs_front (g : Nat → Nat) : ∀ n, rs g (n + 1) = g 0 + rs (fun k => g (k + 1)) n
  | 0 => by simp [rs]
  | n + 1 => by
    have := rs_front g n
    simp only [rs] at this ⊢
    omega
theorem sm_rs (f : Pc → Nat) : ∀ ps : List Pc, sm f ps = rs (fun k => (ps[k]?.map f).getD 0) ps.length
  | [] => rfl
  | p :: ps => by
    rw [sm_cons, sm_rs f ps, List.length_cons, rs_front]
    rfl
theorem sm_flat (f : Pc → Nat) (h : Nat → List Pc) : ∀ n : Nat, sm f ((List.range n).flatMap h) = rs (fun k => sm f (h k)) n
  | 0 => rfl
  | n + 1 => by
    rw [List.range_succ, List.flatMap_append, sm_app, sm_flat f h n]
    simp [rs]
def rem2 (a b : Nat) (ps : List Pc) : List Pc := (List.range ps.length).flatMap fun k => if k = a ∨ k = b then [] else ps[k]?.toList
theorem sm_rem2 (f : Pc → Nat) {a b : Nat} {ps : List Pc} {p q : Pc} (ha : ps[a]? = some p) (hb : ps[b]? = some q) (ne : a ≠ b) : sm f (rem2 a b ps) + f p + f q = sm f ps := by
  have la : a < ps.length := (List.getElem?_eq_some_iff.mp ha).1
  have lb : b < ps.length := (List.getElem?_eq_some_iff.mp hb).1
  have ne' : ¬ b = a := fun z => ne z.symm
  rw [sm_rs f ps, rs_out la, rs_out (a := b) lb, if_neg ne', rem2, sm_flat]
  have e : rs (fun k => sm f (if k = a ∨ k = b then [] else ps[k]?.toList)) ps.length = rs (fun k => if k = b then 0 else if k = a then 0 else (ps[k]?.map f).getD 0) ps.length := by
    apply rs_congr
    intro k hk
    by_cases h1 : k = a
    · rw [if_pos (.inl h1), if_pos h1]; split <;> rfl
    · by_cases h2 : k = b
      · rw [if_pos (.inr h2), if_pos h2]; rfl
      · rw [if_neg (by intro z; rcases z with z | z; exact h1 z; exact h2 z), if_neg h2, if_neg h1]
        cases ps[k]? with
        | none => rfl
        | some v => simp
  rw [e, ha, hb]
  simp only [Option.map_some, Option.getD_some]
  omega
theorem mem_rem2 {a b : Nat} {ps : List Pc} {p : Pc} (h : p ∈ rem2 a b ps) : p ∈ ps := by
  unfold rem2 at h
  obtain ⟨k, _, hk⟩ := List.mem_flatMap.mp h
  split at hk
  · simp at hk
  · rw [Option.mem_toList] at hk
    exact List.mem_of_getElem? hk
theorem PI.use_ {m : Nat} {ps : List Pc} {a b : Nat} {p q : Pc} (h : PI m ps) (ha : ps[a]? = some p) (hb : ps[b]? = some q) (ne : a ≠ b) : PI m (rem2 a b ps ++ [mer p q]) := by
  have hp := h.po p (List.mem_of_getElem? ha)
  have hq := h.po q (List.mem_of_getElem? hb)
  refine ⟨by simp, fun r hr => ?_, fun y => ?_, ?_, ?_, ?_⟩
  · rcases List.mem_append.mp hr with z | z
    · exact h.po r (mem_rem2 z)
    · rw [List.mem_singleton.mp z]; exact mer_ok hp hq
  · have h1 := h.one y
    have h2 := sm_rem2 (fun p => cn y p.1.names) ha hb ne
    have h3 : cn y (mer p q).1.names = cn y p.1.names + cn y q.1.names := cn_app ..
    rw [sm_app, sm_cons, sm_nil, h3]
    omega
  · have h1 := h.vs
    have h2 := sm_rem2 (fun p => p.1.names.length) ha hb ne
    have h3 : (mer p q).1.names.length = p.1.names.length + q.1.names.length := List.length_append ..
    rw [sm_app, sm_cons, sm_nil, h3]
    omega
  · have h1 := h.ns
    have h2 := sm_rem2 (fun p => p.2.length) ha hb ne
    have h3 : (mer p q).2.length = p.2.length + q.2.length := List.length_append ..
    rw [sm_app, sm_cons, sm_nil, h3]
    omega
  · have h1 := h.ln
    have h2 := sm_rem2 (fun _ => 1) ha hb ne
    rw [sm_one, sm_one] at h2
    rw [List.length_append, List.length_singleton]
    omega
/-! the end -/
theorem mer_all : ∀ (r : List Pc) (p : Pc), PO p → (∀ q ∈ r, PO q) → PO (r.foldl mer p) ∧ (∀ y, cn y (r.foldl mer p).1.names = sm (fun p => cn y p.1.names) (p :: r)) ∧ (r.foldl mer p).1.names.length = sm (fun p => p.1.names.length) (p :: r) ∧ (r.foldl mer p).2.length = sm (fun p => p.2.length) (p :: r)
  | [], p, h, _ => ⟨h, fun y => by simp, by simp, by simp⟩
  | q :: r, p, h, hr => by
    obtain ⟨h1, h2, h3, h4⟩ := mer_all r (mer p q) (mer_ok h (hr q (by simp))) (fun s hs => hr s (by simp [hs]))
    simp only [sm_cons] at h2 h3 h4
    refine ⟨h1, fun y => ?_, ?_, ?_⟩
    · have h5 : cn y (mer p q).1.names = cn y p.1.names + cn y q.1.names := cn_app ..
      rw [List.foldl_cons, h2, h5, sm_cons, sm_cons]; omega
    · have h5 : (mer p q).1.names.length = p.1.names.length + q.1.names.length := List.length_append ..
      rw [List.foldl_cons, h3, h5, sm_cons, sm_cons]; omega
    · have h5 : (mer p q).2.length = p.2.length + q.2.length := List.length_append ..
      rw [List.foldl_cons, h4, h5, sm_cons, sm_cons]; omega
def fns (t : Tm) (xs : List Sg) : Tm := xs.foldl (fun t x => .fn x t) t
theorem fns_names : ∀ (xs : List Sg) (t : Tm), (fns t xs).names = t.names
  | [], _ => rfl
  | x :: xs, t => fns_names xs (.fn x t)
theorem fns_ok : ∀ (xs : List Sg) (t : Tm), PO (t, xs) → PO (fns t xs, [])
  | [], _, h => h
  | x :: xs, t, h => fns_ok xs (.fn x t) ⟨h.cl, fun y => by
    have := h.eq y
    simp only [cn_cons] at this
    show cn y t.names = cn y (x :: t.funs) + cn y xs
    rw [cn_cons]
    omega, h.two⟩
/-- what is drawn in the end -/
structure TL (m : Nat) (t : Tm) : Prop where
  lc : Lc t
  vs : t.names.length = m
  two : ∀ y ∈ t.names, y.length = 2
  fu : ∀ y ∈ t.funs, y.length = 2
theorem PI.end_ {m : Nat} {p : Pc} {r : List Pc} (h : PI m (p :: r)) : TL m (fns (r.foldl mer p).1 (r.foldl mer p).2) := by
  obtain ⟨h1, h2, h3, _⟩ := mer_all r p (h.po p (by simp)) (fun q hq => h.po q (by simp [hq]))
  have F := fns_ok (r.foldl mer p).2 (r.foldl mer p).1 h1
  have nm := fns_names (r.foldl mer p).2 (r.foldl mer p).1
  have one : ∀ y, cn y (fns (r.foldl mer p).1 (r.foldl mer p).2).names ≤ 1 := fun y => by rw [nm, h2]; exact h.one y
  have vs : (fns (r.foldl mer p).1 (r.foldl mer p).2).names.length = m := by rw [nm, h3]; exact h.vs
  generalize fns (r.foldl mer p).1 (r.foldl mer p).2 = t at *
  have eq : ∀ y, cn y t.names = cn y t.funs := fun y => by have := F.eq y; simp only [cn_nil] at this; exact this
  refine ⟨⟨⟨F.cl, fun y => by rw [← eq]; exact one y, one, fun y => by rw [eq]; exact Nat.le_refl _, fun y hy => by simp at hy⟩, ?_⟩, vs, F.two, fun y hy => F.two y (cn_pos.mp (by rw [eq]; exact cn_pos.mpr hy))⟩
  exact (List.perm_iff_count.mpr eq).length_eq
end Z51
end

section
namespace Z51
open Z
/-! ### the drawn terms, walked -/
abbrev psl (m : Nat) (ps : List Pc) (tl : List (Option LV)) : Slots := some (.ref 0) :: some (.pv (.int (m : Nat))) :: some (.pv (.lst (ps.map pcT))) :: tl
theorem str2 (x : Sg) : doCmp .ne (.str x) (.str x) = some false := ne_self rfl (by simp [Z.dep])
theorem nin2 (k a b : Nat) : doCmp .nin (.int (k : Nat)) (.lst [.int (a : Nat), .int (b : Nat)]) = some (!(decide (k = a ∨ k = b))) := by
  have e : doCmp .nin (.int (k : Nat)) (.lst [.int (a : Nat), .int (b : Nat)]) = (inFlat (.int (k : Nat)) [.int (a : Nat), .int (b : Nat)]).map (!·) := rfl
  rw [e]
  have e1 : eqP (.int (a : Nat)) (.int (k : Nat)) = decide (k = a) := by
    simp only [eqP]
    exact Bool.eq_iff_iff.mpr (by simp; omega)
  have e2 : eqP (.int (b : Nat)) (.int (k : Nat)) = decide (k = b) := by
    simp only [eqP]
    exact Bool.eq_iff_iff.mpr (by simp; omega)
  simp only [inFlat, List.all_cons, List.all_nil, flat, Bool.and_true, if_true, List.any_cons, List.any_nil, e1, e2, Option.map_some, Bool.or_false]
  simp
section
variable {S : Sem} {st : Store}
theorem flt_step (x z : Sg) {φ : Slots} (hl : φ.length = 13) (h8 : φ[8]? = some (some (.pv (.str x)))) : lcStep S (.var 12) (.nm 12) [.cmp .ne (.var 12) (.var 8)] [12] φ (.str z) st = some (.ok (if z = x then [] else [.pv (.str z)]) st) := by
  match φ, hl with
  | [a0, a1, a2, a3, a4, a5, a6, a7, a8, a9, a10, a11, a12], _ =>
    have h8' : a8 = some (.pv (.str x)) := by simpa using h8
    subst h8'
    by_cases e : z = x
    · subst e
      simp [lcStep, wipeL]
    · simp [lcStep, wipeL, e]
theorem flt_lc (x : Sg) (xs : List Sg) (hx : xs.length ≤ 100) {φ : Slots} (hl : φ.length = 13) (h8 : φ[8]? = some (some (.pv (.str x)))) : lcV false .val [.pv (.lst (xs.map .str))] (lcStep S (.var 12) (.nm 12) [.cmp .ne (.var 12) (.var 8)] [12] φ) st = some (.ok (.pv (.lst ((xs.filter fun z => decide (z ≠ x)).map .str))) st) := by
  have hline : line = 16777216 := rfl
  have lp := lcLoop_pure (step := lcStep S (.var 12) (.nm 12) [.cmp .ne (.var 12) (.var 8)] [12] φ) (f := fun p => match p with
    | .str z => if z = x then [] else [LV.pv (.str z)]
    | _ => []) (st := st) (xs := xs.map .str) (fun p hp => by
      obtain ⟨z, _, rfl⟩ := List.mem_map.mp hp
      exact flt_step x z hl h8)
  have e : (xs.map PV.str).flatMap (fun p => match p with
    | .str z => if z = x then [] else [LV.pv (.str z)]
    | _ => []) = ((xs.filter fun z => decide (z ≠ x)).map PV.str).map .pv := by
    clear lp hx
    induction xs with
    | nil => rfl
    | cons z zs ih =>
      rw [List.map_cons, List.flatMap_cons, ih, List.filter_cons]
      by_cases e : z = x
      · simp [e]
      · simp [e]
  rw [lcV_lst lp, e]
  have := List.length_filter_le (fun z => decide (z ≠ x)) xs
  exact mkLst_pv (by rw [List.length_map]; omega)
theorem rem_step (ps : List Pc) (a b k : Nat) (hk : k < ps.length) {φ : Slots} (hl : φ.length = 13) (h2 : φ[2]? = some (some (.pv (.lst (ps.map pcT))))) (h9 : φ[9]? = some (some (.pv (.int (a : Nat))))) (h11 : φ[11]? = some (some (.pv (.int (b : Nat))))) :
    lcStep S (.idx (.var 2) (.var 10)) (.nm 10) [.cmp .nin (.var 10) (.lst false [.var 9, .var 11])] [10] φ (.int (k : Nat)) st = some (.ok (((if k = a ∨ k = b then [] else ps[k]?.toList).map pcT).map .pv) st) := by
  match φ, hl with
  | [a0, a1, a2, a3, a4, a5, a6, a7, a8, a9, a10, a11, a12], _ =>
    have e2 : a2 = some (.pv (.lst (ps.map pcT))) := by simpa using h2
    have e9 : a9 = some (.pv (.int (a : Nat))) := by simpa using h9
    have e11 : a11 = some (.pv (.int (b : Nat))) := by simpa using h11
    subst e2 e9 e11
    have nn := nin2 k a b
    have ix : atI (ps.map pcT) (k : Int) = some (pcT ps[k]) := by
      rw [atI_nat (by rw [List.length_map]; exact hk), List.getElem?_map, List.getElem?_eq_getElem hk]
      rfl
    rw [List.getElem?_eq_getElem hk]
    by_cases e : k = a ∨ k = b
    · rw [decide_eq_true e] at nn
      simp [lcStep, wipeL, nn, e]
    · rw [decide_eq_false e] at nn
      simp [lcStep, wipeL, nn, e, ix]
theorem rem_lc (ps : List Pc) (a b : Nat) (hp : ps.length ≤ 100) {φ : Slots} (hl : φ.length = 13) (h2 : φ[2]? = some (some (.pv (.lst (ps.map pcT))))) (h9 : φ[9]? = some (some (.pv (.int (a : Nat))))) (h11 : φ[11]? = some (some (.pv (.int (b : Nat))))) :
    lcV false .range [.pv (.int (ps.length : Nat))] (lcStep S (.idx (.var 2) (.var 10)) (.nm 10) [.cmp .nin (.var 10) (.lst false [.var 9, .var 11])] [10] φ) st = some (.ok (.pv (.lst ((rem2 a b ps).map pcT))) st) := by
  have hline : line = 16777216 := rfl
  have lp := lcLoop_pure (step := lcStep S (.idx (.var 2) (.var 10)) (.nm 10) [.cmp .nin (.var 10) (.lst false [.var 9, .var 11])] [10] φ) (f := fun p => match p with
    | .int k => (((if k.toNat = a ∨ k.toNat = b then [] else ps[k.toNat]?.toList).map pcT).map LV.pv)
    | _ => []) (st := st) (xs := (upto 0 ps.length).map .int) (fun p hp => by
      rw [upto_range, List.map_map, List.mem_map] at hp
      obtain ⟨k, hk, e⟩ := hp
      rw [List.mem_range] at hk
      subst e
      exact rem_step ps a b k hk hl h2 h9 h11)
  rw [lcV_upto (by omega) lp]
  have e : ((upto 0 ps.length).map PV.int).flatMap (fun p => match p with
    | .int k => (((if k.toNat = a ∨ k.toNat = b then [] else ps[k.toNat]?.toList).map pcT).map LV.pv)
    | _ => []) = ((rem2 a b ps).map pcT).map .pv := by
    rw [upto_range, rem2, List.map_map, List.flatMap_map, List.map_flatMap, List.map_flatMap]
    rfl
  rw [e]
  have : (rem2 a b ps).length ≤ ps.length := by
    unfold rem2
    have h := sm_flat (fun _ => 1) (fun k => if k = a ∨ k = b then [] else ps[k]?.toList) ps.length
    rw [sm_one] at h
    rw [h]
    have : ∀ (g : Nat → Nat) (n : Nat), (∀ k, g k ≤ 1) → rs g n ≤ n := by
      intro g n hg
      induction n with
      | zero => exact Nat.le_refl _
      | succ n ih => have := hg n; simp only [rs]; omega
    apply this
    intro k
    rw [sm_one]
    split
    · simp
    · cases ps[k]? <;> simp
  exact mkLst_pv (by rw [List.length_map]; omega)
end
theorem pick {ps : List Pc} {k : Nat} (h : k < ps.length) : ∃ l p r, ps = l ++ p :: r ∧ l.length = k ∧ ps[k]? = some p ∧ atI (ps.map pcT) (k : Int) = some (pcT p) ∧ cut (ps.map pcT) none (some (k : Int)) = l.map pcT ∧ cut (ps.map pcT) (some ((k : Int) + 1)) none = r.map pcT := by
  refine ⟨ps.take k, ps[k], ps.drop (k + 1), ?_, by rw [List.length_take]; omega, List.getElem?_eq_getElem h, ?_, ?_, ?_⟩
  · rw [← List.drop_eq_getElem_cons, List.take_append_drop]
  · rw [atI_nat (by rw [List.length_map]; exact h), List.getElem?_map, List.getElem?_eq_getElem h]; rfl
  · rw [cut_to _ (by rw [List.length_map]; omega), List.map_take]
  · have kk : (k : Int) + 1 = ((k + 1 : Nat) : Int) := by push_cast; rfl
    rw [kk, cut_from _ (by rw [List.length_map]; omega), List.map_drop]
abbrev tA : List MS := [.asg (.nm 8) (.idx (.var 5) (.call 27 [.var 0, .bi .len [.var 5]])), .asg (.nm 2) (.bin .add (.bin .add (.slc (.var 2) false (.lit .non) true (.var 9)) (.lst false [.tup [.tup [.lit (.str [102, 117, 110]), .var 8, .var 4], .lc false (.var 12) (.nm 12) .val [.var 5] [.cmp .ne (.var 12) (.var 8)] [12]]])) (.slc (.var 2) true (.bin .add (.var 9) (.lit (.int 1))) false (.lit .non)))]
abbrev tC : List MS := [.iff (.cmp .gt (.bi .len [.var 2]) (.lit (.int 1))) [.asg (.nm 11) (.bin .mod (.bi .int [.bin .add (.bin .add (.var 9) (.lit (.int 1))) (.call 27 [.var 0, .bin .sub (.bi .len [.var 2]) (.lit (.int 1))])]) (.bi .len [.var 2])), .asg (.tp [.nm 6, .nm 7]) (.idx (.var 2) (.var 11)), .asg (.nm 2) (.bin .add (.lc false (.idx (.var 2) (.var 10)) (.nm 10) .range [.bi .len [.var 2]] [.cmp .nin (.var 10) (.lst false [.var 9, .var 11])] [10]) (.lst false [.tup [.tup [.lit (.str [117, 115, 101]), .var 4, .var 6], .bin .add (.var 5) (.var 7)]]))] []]
abbrev tI : MT := (.boolop true [.cmp .gt (.bi .len [.var 5]) (.lit (.int 0)), .boolop false [.cmp .eq (.bi .len [.var 2]) (.lit (.int 1)), .cmp .eq (.call 27 [.var 0, .lit (.int 2)]) (.lit (.int 0))]])
section
variable {S : Sem} {s0 : Store} (dr : ∀ {st : Store}, Lk s0 st → ∀ {m : Int}, 0 < m → m < 1073741824 → ∃ (k : Nat) (st' : Store), S.call 27 [.ref 0, .pv (.int m)] st = some (.ok (.pv (.int (k : Int))) st') ∧ (k : Int) < m ∧ Lk s0 st')
include dr
theorem pc_test {m : Nat} {ps : List Pc} {p : Pc} {x a4 a6 a7 a8 a9 a10 a11 a12 : Option LV} (hp : 0 < ps.length) (hp2 : ps.length ≤ 100) {st : Store} (hf : Lk s0 st) : ∃ b st', evT S tI (psl m ps [x, a4, some (.pv (.lst (p.2.map .str))), a6, a7, a8, a9, a10, a11, a12]) st = some (.ok b st') ∧ Lk s0 st' ∧ (b = true → 0 < p.2.length) := by
  by_cases h0 : 0 < p.2.length
  · have hne : p.2 ≠ [] := by intro z; rw [z] at h0; simp at h0
    by_cases h1 : ps.length = 1
    · refine ⟨true, st, ?_, hf, fun _ => h0⟩
      have h0' : (0 : Int) < (p.2.length : Int) := by omega
      simp [h0', hne, h1]
    · obtain ⟨j, st1, e1, hj, f1⟩ := dr hf (m := 2) (by decide) (by decide)
      have h0' : (0 : Int) < (p.2.length : Int) := by omega
      have h1' : ¬ (ps.length : Int) = 1 := by omega
      have hj' : j = 0 ∨ j = 1 := by omega
      rcases hj' with z | z <;> subst z
      · exact ⟨true, st1, by simp at e1; simp [h0', hne, h1', e1], f1, fun _ => h0⟩
      · exact ⟨false, st1, by simp at e1; simp [h0', hne, h1', e1], f1, fun z => by cases z⟩
  · refine ⟨false, st, ?_, hf, fun z => by cases z⟩
    have h0' : p.2 = [] := List.length_eq_zero_iff.mp (by omega)
    simp [h0']
theorem pc_fun {m : Nat} {l r : List Pc} {p : Pc} {k : Nat} {x a6 a7 a8 a10 a11 a12 : Option LV} (hm : m ≤ 13) (h : PI m (l ++ p :: r)) (hk : l.length = k) (h0 : 0 < p.2.length) (c1 : cut ((l ++ p :: r).map pcT) none (some (k : Int)) = l.map pcT) (c2 : cut ((l ++ p :: r).map pcT) (some ((k : Int) + 1)) none = r.map pcT) {st : Store} (hf : Lk s0 st) :
    ∃ ps' b8 st', exSs S tA (psl m (l ++ p :: r) [x, some (.pv p.1.tree), some (.pv (.lst (p.2.map .str))), a6, a7, a8, some (.pv (.int (k : Nat))), a10, a11, a12]) st = some (.nx (psl m ps' [x, some (.pv p.1.tree), some (.pv (.lst (p.2.map .str))), a6, a7, b8, some (.pv (.int (k : Nat))), a10, a11, a12]) st') ∧ Lk s0 st' ∧ PI m ps' := by
  have ln := h.ln
  have hn : p.2.length ≤ m := Nat.le_trans (sm_mem (f := fun p => p.2.length) (ps := l ++ p :: r) (by simp)) h.ns
  obtain ⟨j, st1, e1, hj, f1⟩ := dr hf (m := (p.2.length : Nat)) (by omega) (by omega)
  have hj' : j < p.2.length := by omega
  have ix : atI (p.2.map PV.str) (j : Int) = some (.str p.2[j]) := by
    rw [atI_nat (by rw [List.length_map]; exact hj'), List.getElem?_map, List.getElem?_eq_getElem hj']; rfl
  have hx : p.2[j] ∈ p.2 := List.getElem_mem hj'
  generalize p.2[j] = y at *
  refine ⟨l ++ pfun y p :: r, some (.pv (.str y)), st1, ?_, f1, h.fun_ hx⟩
  have lc := flt_lc (S := S) (st := st1) y p.2 (by omega) (φ := psl m (l ++ p :: r) [x, some (.pv p.1.tree), some (.pv (.lst (p.2.map .str))), a6, a7, some (.pv (.str y)), some (.pv (.int (k : Nat))), a10, a11, a12]) rfl rfl
  rw [List.length_append, List.length_cons] at ln
  have hline : line = 16777216 := rfl
  have j1 : doBin .add (.lst (l.map pcT)) (.lst [pcT (pfun y p)]) = some (.lst (l.map pcT ++ [pcT (pfun y p)])) := cat_lst (by simp; omega)
  have j2 : doBin .add (.lst (l.map pcT ++ [pcT (pfun y p)])) (.lst (r.map pcT)) = some (.lst ((l ++ pfun y p :: r).map pcT)) := by
    rw [cat_lst (by simp; omega)]; simp
  have pe : pcT (pfun y p) = .tup [.tup [.str [102, 117, 110], .str y, p.1.tree], .lst ((p.2.filter fun z => decide (z ≠ y)).map .str)] := rfl
  rw [pe] at j1 j2
  unfold psl at lc ⊢
  generalize (l ++ pfun y p :: r).map pcT = X at *
  generalize (l ++ p :: r).map pcT = Y at *
  generalize (p.2.filter fun z => decide (z ≠ y)).map PV.str = W at *
  have vl : (p.2.map PV.str).length = p.2.length := List.length_map ..
  generalize p.2.map PV.str = V at *
  generalize p.1.tree = T at *
  simp [e1, ix, optL, c1, c2, lc, j1, j2, vl]
theorem pc_use {m : Nat} {ps : List Pc} {p : Pc} {k : Nat} {x a6 a7 a8 a10 a11 a12 : Option LV} (hm : m ≤ 13) (h : PI m ps) (hp : ps[k]? = some p) {st : Store} (hf : Lk s0 st) :
    ∃ ps' b6 b7 b11 st', exSs S tC (psl m ps [x, some (.pv p.1.tree), some (.pv (.lst (p.2.map .str))), a6, a7, a8, some (.pv (.int (k : Nat))), a10, a11, a12]) st = some (.nx (psl m ps' [x, some (.pv p.1.tree), some (.pv (.lst (p.2.map .str))), b6, b7, a8, some (.pv (.int (k : Nat))), a10, b11, a12]) st') ∧ Lk s0 st' ∧ PI m ps' := by
  have ln := h.ln
  have hk : k < ps.length := (List.getElem?_eq_some_iff.mp hp).1
  by_cases h1 : 1 < ps.length
  · obtain ⟨d, st1, e1, hd, f1⟩ := dr hf (m := (ps.length : Int) - 1) (by omega) (by omega)
    have hto : (k + 1 + d) % ps.length < ps.length := Nat.mod_lt _ (by omega)
    have hne : k ≠ (k + 1 + d) % ps.length := by
      intro z
      have hd' : d + 1 < ps.length := by omega
      by_cases w : k + 1 + d < ps.length
      · rw [Nat.mod_eq_of_lt w] at z; omega
      · rw [Nat.mod_eq_sub_mod (by omega), Nat.mod_eq_of_lt (by omega)] at z; omega
    have md : doBin .mod (.int ((k : Int) + 1 + (d : Int))) (.int (ps.length : Nat)) = some (.int (((k + 1 + d) % ps.length : Nat) : Int)) := by
      simp only [doBin]
      rw [if_pos (by omega)]
      congr 2
    generalize (k + 1 + d) % ps.length = t at *
    obtain ⟨l, q, r, _, _, hq, i1, _, _⟩ := pick hto
    have lc := rem_lc (S := S) (st := st1) ps k t (by omega) (φ := psl m ps [x, some (.pv p.1.tree), some (.pv (.lst (p.2.map .str))), some (.pv q.1.tree), some (.pv (.lst (q.2.map .str))), a8, some (.pv (.int (k : Nat))), a10, some (.pv (.int (t : Nat))), a12]) rfl rfl rfl rfl
    have U := h.use_ hp hq hne
    have ul := U.ln
    have un := U.ns
    rw [List.length_append, List.length_singleton] at ul
    rw [sm_app, sm_cons] at un
    have hml : (mer p q).2.length = p.2.length + q.2.length := List.length_append ..
    have hline : line = 16777216 := rfl
    have cn : doBin .add (.lst (p.2.map PV.str)) (.lst (q.2.map PV.str)) = some (.lst ((p.2 ++ q.2).map .str)) := by
      rw [cat_lst (by simp; omega), List.map_append]
    have j1 : doBin .add (.lst ((rem2 k t ps).map pcT)) (.lst [pcT (mer p q)]) = some (.lst ((rem2 k t ps ++ [mer p q]).map pcT)) := by
      rw [cat_lst (by simp; omega)]; simp
    have pe : pcT (mer p q) = .tup [.tup [.str [117, 115, 101], p.1.tree, q.1.tree], .lst ((p.2 ++ q.2).map .str)] := rfl
    rw [pe] at j1
    have bi : ∀ i : Int, doBI .int [.int i] = some (.int i) := fun _ => rfl
    refine ⟨rem2 k t ps ++ [mer p q], some (.pv q.1.tree), some (.pv (.lst (q.2.map .str))), some (.pv (.int (t : Nat))), st1, ?_, f1, U⟩
    have pq : pcT q = .tup [q.1.tree, .lst (q.2.map .str)] := rfl
    rw [pq] at i1
    have h1' : (1 : Int) < (ps.length : Int) := by omega
    have vl : (ps.map pcT).length = ps.length := List.length_map ..
    unfold psl at lc ⊢
    generalize (rem2 k t ps ++ [mer p q]).map pcT = X at *
    generalize (rem2 k t ps).map pcT = R at *
    generalize ps.map pcT = Y at *
    generalize (p.2 ++ q.2).map PV.str = PQ at *
    generalize p.2.map PV.str = P2 at *
    generalize q.2.map PV.str = Q2 at *
    generalize p.1.tree = T at *
    generalize q.1.tree = T2 at *
    simp [vl, h1', e1, bi, md, i1, lc, cn, j1]
  · refine ⟨ps, a6, a7, a11, st, ?_, hf, h⟩
    have h1' : ¬ (1 : Int) < (ps.length : Int) := by omega
    simp [h1']
theorem pc_turn {m : Nat} {ps : List Pc} (hm : m ≤ 13) (h : PI m ps) (y : PV) (tl : List (Option LV)) (htl : tl.length = 10) {st : Store} (hf : Lk s0 st) :
    ∃ ps' tl' st', forStep S (.nm 3) [.asg (.nm 9) (.call 27 [.var 0, .bi .len [.var 2]]), .asg (.tp [.nm 4, .nm 5]) (.idx (.var 2) (.var 9)), .iff (.boolop true [.cmp .gt (.bi .len [.var 5]) (.lit (.int 0)), .boolop false [.cmp .eq (.bi .len [.var 2]) (.lit (.int 1)), .cmp .eq (.call 27 [.var 0, .lit (.int 2)]) (.lit (.int 0))]]) [.asg (.nm 8) (.idx (.var 5) (.call 27 [.var 0, .bi .len [.var 5]])), .asg (.nm 2) (.bin .add (.bin .add (.slc (.var 2) false (.lit .non) true (.var 9)) (.lst false [.tup [.tup [.lit (.str [102, 117, 110]), .var 8, .var 4], .lc false (.var 12) (.nm 12) .val [.var 5] [.cmp .ne (.var 12) (.var 8)] [12]]])) (.slc (.var 2) true (.bin .add (.var 9) (.lit (.int 1))) false (.lit .non)))] [.iff (.cmp .gt (.bi .len [.var 2]) (.lit (.int 1))) [.asg (.nm 11) (.bin .mod (.bi .int [.bin .add (.bin .add (.var 9) (.lit (.int 1))) (.call 27 [.var 0, .bin .sub (.bi .len [.var 2]) (.lit (.int 1))])]) (.bi .len [.var 2])), .asg (.tp [.nm 6, .nm 7]) (.idx (.var 2) (.var 11)), .asg (.nm 2) (.bin .add (.lc false (.idx (.var 2) (.var 10)) (.nm 10) .range [.bi .len [.var 2]] [.cmp .nin (.var 10) (.lst false [.var 9, .var 11])] [10]) (.lst false [.tup [.tup [.lit (.str [117, 115, 101]), .var 4, .var 6], .bin .add (.var 5) (.var 7)]]))] []]] y (psl m ps tl) st = some (.nx (psl m ps' tl') st') ∧ tl'.length = 10 ∧ Lk s0 st' ∧ PI m ps' := by
  match tl, htl with
  | [a3, a4, a5, a6, a7, a8, a9, a10, a11, a12], _ =>
    have ln := h.ln
    have hpos : 0 < ps.length := List.length_pos_iff.mpr h.ne
    obtain ⟨k, st1, e1, hk, f1⟩ := dr hf (m := (ps.length : Nat)) (by omega) (by omega)
    obtain ⟨l, p, r, e, hl, hp, ix, c1, c2⟩ := pick (k := k) (ps := ps) (by omega)
    have s1 : exS S (.asg (.nm 9) (.call 27 [.var 0, .bi .len [.var 2]])) (psl m ps [some (.pv y), a4, a5, a6, a7, a8, a9, a10, a11, a12]) st = some (.nx (psl m ps [some (.pv y), a4, a5, a6, a7, a8, some (.pv (.int (k : Nat))), a10, a11, a12]) st1) := by
      simp [e1]
    have pe : pcT p = .tup [p.1.tree, .lst (p.2.map .str)] := rfl
    rw [pe] at ix
    have s2 : exS S (.asg (.tp [.nm 4, .nm 5]) (.idx (.var 2) (.var 9))) (psl m ps [some (.pv y), a4, a5, a6, a7, a8, some (.pv (.int (k : Nat))), a10, a11, a12]) st1 = some (.nx (psl m ps [some (.pv y), some (.pv p.1.tree), some (.pv (.lst (p.2.map .str))), a6, a7, a8, some (.pv (.int (k : Nat))), a10, a11, a12]) st1) := by
      simp [ix]
    obtain ⟨b, st2, e2, f2, hb⟩ := pc_test dr (m := m) (ps := ps) (p := p) (x := some (.pv y)) (a4 := some (.pv p.1.tree)) (a6 := a6) (a7 := a7) (a8 := a8) (a9 := some (.pv (.int (k : Nat)))) (a10 := a10) (a11 := a11) (a12 := a12) hpos (by omega) f1
    have hs : forStep S (.nm 3) [.asg (.nm 9) (.call 27 [.var 0, .bi .len [.var 2]]), .asg (.tp [.nm 4, .nm 5]) (.idx (.var 2) (.var 9)), .iff (.boolop true [.cmp .gt (.bi .len [.var 5]) (.lit (.int 0)), .boolop false [.cmp .eq (.bi .len [.var 2]) (.lit (.int 1)), .cmp .eq (.call 27 [.var 0, .lit (.int 2)]) (.lit (.int 0))]]) [.asg (.nm 8) (.idx (.var 5) (.call 27 [.var 0, .bi .len [.var 5]])), .asg (.nm 2) (.bin .add (.bin .add (.slc (.var 2) false (.lit .non) true (.var 9)) (.lst false [.tup [.tup [.lit (.str [102, 117, 110]), .var 8, .var 4], .lc false (.var 12) (.nm 12) .val [.var 5] [.cmp .ne (.var 12) (.var 8)] [12]]])) (.slc (.var 2) true (.bin .add (.var 9) (.lit (.int 1))) false (.lit .non)))] [.iff (.cmp .gt (.bi .len [.var 2]) (.lit (.int 1))) [.asg (.nm 11) (.bin .mod (.bi .int [.bin .add (.bin .add (.var 9) (.lit (.int 1))) (.call 27 [.var 0, .bin .sub (.bi .len [.var 2]) (.lit (.int 1))])]) (.bi .len [.var 2])), .asg (.tp [.nm 6, .nm 7]) (.idx (.var 2) (.var 11)), .asg (.nm 2) (.bin .add (.lc false (.idx (.var 2) (.var 10)) (.nm 10) .range [.bi .len [.var 2]] [.cmp .nin (.var 10) (.lst false [.var 9, .var 11])] [10]) (.lst false [.tup [.tup [.lit (.str [117, 115, 101]), .var 4, .var 6], .bin .add (.var 5) (.var 7)]]))] []]] y (psl m ps [a3, a4, a5, a6, a7, a8, a9, a10, a11, a12]) st = exSs S [.asg (.nm 9) (.call 27 [.var 0, .bi .len [.var 2]]), .asg (.tp [.nm 4, .nm 5]) (.idx (.var 2) (.var 9)), .iff (.boolop true [.cmp .gt (.bi .len [.var 5]) (.lit (.int 0)), .boolop false [.cmp .eq (.bi .len [.var 2]) (.lit (.int 1)), .cmp .eq (.call 27 [.var 0, .lit (.int 2)]) (.lit (.int 0))]]) [.asg (.nm 8) (.idx (.var 5) (.call 27 [.var 0, .bi .len [.var 5]])), .asg (.nm 2) (.bin .add (.bin .add (.slc (.var 2) false (.lit .non) true (.var 9)) (.lst false [.tup [.tup [.lit (.str [102, 117, 110]), .var 8, .var 4], .lc false (.var 12) (.nm 12) .val [.var 5] [.cmp .ne (.var 12) (.var 8)] [12]]])) (.slc (.var 2) true (.bin .add (.var 9) (.lit (.int 1))) false (.lit .non)))] [.iff (.cmp .gt (.bi .len [.var 2]) (.lit (.int 1))) [.asg (.nm 11) (.bin .mod (.bi .int [.bin .add (.bin .add (.var 9) (.lit (.int 1))) (.call 27 [.var 0, .bin .sub (.bi .len [.var 2]) (.lit (.int 1))])]) (.bi .len [.var 2])), .asg (.tp [.nm 6, .nm 7]) (.idx (.var 2) (.var 11)), .asg (.nm 2) (.bin .add (.lc false (.idx (.var 2) (.var 10)) (.nm 10) .range [.bi .len [.var 2]] [.cmp .nin (.var 10) (.lst false [.var 9, .var 11])] [10]) (.lst false [.tup [.tup [.lit (.str [117, 115, 101]), .var 4, .var 6], .bin .add (.var 5) (.var 7)]]))] []]] (psl m ps [some (.pv y), a4, a5, a6, a7, a8, a9, a10, a11, a12]) st := rfl
    rw [hs, exSs_cons, s1, seqS_nx, exSs_cons, s2, seqS_nx, exSs_one]
    cases b with
    | true =>
      rw [exS_iff_t e2]
      subst e
      obtain ⟨ps', b8, st3, e3, f3, h3⟩ := pc_fun dr (x := some (.pv y)) (a6 := a6) (a7 := a7) (a8 := a8) (a10 := a10) (a11 := a11) (a12 := a12) hm h hl (hb rfl) c1 c2 f2
      exact ⟨ps', _, st3, e3, rfl, f3, h3⟩
    | false =>
      rw [exS_iff_f e2]
      obtain ⟨ps', b6, b7, b11, st3, e3, f3, h3⟩ := pc_use dr (x := some (.pv y)) (a6 := a6) (a7 := a7) (a8 := a8) (a10 := a10) (a11 := a11) (a12 := a12) hm h hp f2
      exact ⟨ps', _, st3, e3, rfl, f3, h3⟩
end
end Z51
end

section
namespace Z51
open Z
/-! ### _law_term -/
def ini (k : Nat) : Pc := (.var [120, 97 + k], [[120, 97 + k]])
theorem sm_mapr (f : Pc → Nat) (g : Nat → Pc) : ∀ n : Nat, sm f ((List.range n).map g) = rs (fun k => f (g k)) n
  | 0 => rfl
  | n + 1 => by
    rw [List.range_succ, List.map_append, sm_app, sm_mapr f g n]
    simp [rs]
theorem rs_ones : ∀ n, rs (fun _ => 1) n = n
  | 0 => rfl
  | n + 1 => by simp only [rs, rs_ones n]
theorem rs_le1 {g : Nat → Nat} : ∀ {n : Nat}, (∀ k, g k ≤ 1) → (∀ i < n, ∀ j < n, 0 < g i → 0 < g j → i = j) → rs g n ≤ 1
  | 0, _, _ => Nat.zero_le _
  | n + 1, h, u => by
    have ih := rs_le1 (n := n) h fun i hi j hj => u i (by omega) j (by omega)
    have hn := h n
    by_cases z : g n = 0
    · simp only [rs]; omega
    · have : rs g n = rs (fun _ => 0) n := rs_congr fun k hk => by
        by_cases w : g k = 0
        · exact w
        · have := u k (by omega) n (by omega) (by omega) (by omega)
          omega
      have z0 : ∀ n, rs (fun _ => 0) n = 0 := by
        intro n
        induction n with
        | zero => rfl
        | succ n ih => simp only [rs, ih]
      simp only [rs, this, z0]
      omega
theorem ini_PI {m : Nat} (h : 0 < m) : PI m ((List.range m).map ini) := by
  refine ⟨by intro z; have := congrArg List.length z; simp at this; omega, fun p hp => ?_, fun y => ?_, ?_, ?_, by simp⟩
  · obtain ⟨k, _, rfl⟩ := List.mem_map.mp hp
    refine ⟨?_, fun y => ?_, fun y hy => ?_⟩
    · show [120, 97 + k] ∈ [[120, 97 + k]]
      exact List.mem_singleton.mpr rfl
    · show cn y [[120, 97 + k]] = cn y [] + cn y [[120, 97 + k]]
      rw [cn_nil]; omega
    · have : y = [120, 97 + k] := List.mem_singleton.mp hy
      rw [this]; rfl
  · rw [sm_mapr]
    apply rs_le1
    · intro k
      show cn y [[120, 97 + k]] ≤ 1
      rw [cn_cons, cn_nil]; split <;> omega
    · intro i _ j _ hi hj
      have hi' : 0 < cn y [[120, 97 + i]] := hi
      have hj' : 0 < cn y [[120, 97 + j]] := hj
      rw [cn_pos, List.mem_singleton] at hi' hj'
      rw [hi'] at hj'
      simp at hj'
      exact hj'
  · rw [sm_mapr]
    exact rs_ones m
  · rw [sm_mapr]
    exact Nat.le_of_eq (rs_ones m)
theorem ini_step {S : Sem} {st : Store} {k : Nat} (hk : k < 13) {φ : Slots} (hl : φ.length = 13) : lcStep S (.tup [.tup [.lit (.str [118, 97, 114]), .bin .add (.lit (.str [120])) (.idx (.lit (.str [97, 98, 99, 100, 101, 102, 103, 104, 105, 106, 107, 108, 109])) (.var 10))], .lst false [.bin .add (.lit (.str [120])) (.idx (.lit (.str [97, 98, 99, 100, 101, 102, 103, 104, 105, 106, 107, 108, 109])) (.var 10))]]) (.nm 10) [] [10] φ (.int (k : Nat)) st = some (.ok [.pv (pcT (ini k))] st) := by
  match φ, hl with
  | [a0, a1, a2, a3, a4, a5, a6, a7, a8, a9, a10, a11, a12], _ =>
    have ix : doIdx (.str [97, 98, 99, 100, 101, 102, 103, 104, 105, 106, 107, 108, 109]) (.int (k : Int)) = some (.str [97 + k]) := by
      have e : ∀ k < 13, ([97, 98, 99, 100, 101, 102, 103, 104, 105, 106, 107, 108, 109] : Sg)[k]? = some (97 + k) := by decide
      rw [idx_str (by decide) (by exact hk), e k hk]
      rfl
    have c1 : doBin .add (.str [120]) (.str [97 + k]) = some (.str [120, 97 + k]) := rfl
    simp [lcStep, wipeL, ix, c1, pcT, ini, Tm.tree]
theorem fm1 {α β : Type} (f : α → β) : ∀ l : List α, l.flatMap (fun k => [f k]) = l.map f
  | [] => rfl
  | x :: l => by rw [List.flatMap_cons, fm1 f l]; rfl
theorem ini_lc {S : Sem} {st : Store} {m : Nat} (hm : m ≤ 13) {φ : Slots} (hl : φ.length = 13) : lcV false .range [.pv (.int (m : Nat))] (lcStep S (.tup [.tup [.lit (.str [118, 97, 114]), .bin .add (.lit (.str [120])) (.idx (.lit (.str [97, 98, 99, 100, 101, 102, 103, 104, 105, 106, 107, 108, 109])) (.var 10))], .lst false [.bin .add (.lit (.str [120])) (.idx (.lit (.str [97, 98, 99, 100, 101, 102, 103, 104, 105, 106, 107, 108, 109])) (.var 10))]]) (.nm 10) [] [10] φ) st = some (.ok (.pv (.lst (((List.range m).map ini).map pcT))) st) := by
  have hline : line = 16777216 := rfl
  have lp := lcLoop_pure (step := lcStep S (.tup [.tup [.lit (.str [118, 97, 114]), .bin .add (.lit (.str [120])) (.idx (.lit (.str [97, 98, 99, 100, 101, 102, 103, 104, 105, 106, 107, 108, 109])) (.var 10))], .lst false [.bin .add (.lit (.str [120])) (.idx (.lit (.str [97, 98, 99, 100, 101, 102, 103, 104, 105, 106, 107, 108, 109])) (.var 10))]]) (.nm 10) [] [10] φ) (f := fun p => match p with
    | .int k => [LV.pv (pcT (ini k.toNat))]
    | _ => []) (st := st) (xs := (upto 0 m).map .int) (fun p hp => by
      rw [upto_range, List.map_map, List.mem_map] at hp
      obtain ⟨k, hk, e⟩ := hp
      rw [List.mem_range] at hk
      subst e
      exact ini_step (by omega) hl)
  rw [lcV_upto (by omega) lp]
  have e : ((upto 0 m).map PV.int).flatMap (fun p => match p with
    | .int k => [LV.pv (pcT (ini k.toNat))]
    | _ => []) = (((List.range m).map ini).map pcT).map .pv := by
    rw [upto_range, List.map_map, List.flatMap_map, List.map_map, List.map_map]
    exact fm1 _ _
  rw [e]
  exact mkLst_pv (by simp; omega)
theorem mer_loop {S : Sem} {st : Store} : ∀ (r : List Pc) (p : Pc) (a0 a1 a2 a3 a6 a7 a8 a9 a10 a11 a12 : Option LV), p.2.length + sm (fun p => p.2.length) r ≤ 100 → ∃ b6 b7, forLoop (forStep S (.tp [.nm 6, .nm 7]) [.asg (.nm 4) (.tup [.lit (.str [117, 115, 101]), .var 4, .var 6]), .asg (.nm 5) (.bin .add (.var 5) (.var 7))]) (r.map pcT) [a0, a1, a2, a3, some (.pv p.1.tree), some (.pv (.lst (p.2.map .str))), a6, a7, a8, a9, a10, a11, a12] st =
    some (.nx [a0, a1, a2, a3, some (.pv (r.foldl mer p).1.tree), some (.pv (.lst ((r.foldl mer p).2.map .str))), b6, b7, a8, a9, a10, a11, a12] st)
  | [], p, _, _, _, _, a6, a7, _, _, _, _, _, _ => ⟨a6, a7, rfl⟩
  | q :: r, p, a0, a1, a2, a3, a6, a7, a8, a9, a10, a11, a12, h => by
    rw [sm_cons] at h
    obtain ⟨b6, b7, ih⟩ := mer_loop (S := S) (st := st) r (mer p q) a0 a1 a2 a3 (some (.pv q.1.tree)) (some (.pv (.lst (q.2.map .str)))) a8 a9 a10 a11 a12 (by show (p.2 ++ q.2).length + _ ≤ 100; rw [List.length_append]; omega)
    refine ⟨b6, b7, ?_⟩
    rw [List.map_cons, forLoop_cons]
    have hline : line = 16777216 := rfl
    have cn : doBin .add (.lst (p.2.map PV.str)) (.lst (q.2.map PV.str)) = some (.lst ((p.2 ++ q.2).map .str)) := by
      rw [cat_lst (by simp; omega), List.map_append]
    have m1 : (mer p q).1.tree = .tup [.str [117, 115, 101], p.1.tree, q.1.tree] := rfl
    have m2 : (mer p q).2 = p.2 ++ q.2 := rfl
    have s1 : forStep S (.tp [.nm 6, .nm 7]) [.asg (.nm 4) (.tup [.lit (.str [117, 115, 101]), .var 4, .var 6]), .asg (.nm 5) (.bin .add (.var 5) (.var 7))] (pcT q) [a0, a1, a2, a3, some (.pv p.1.tree), some (.pv (.lst (p.2.map .str))), a6, a7, a8, a9, a10, a11, a12] st = some (.nx [a0, a1, a2, a3, some (.pv (mer p q).1.tree), some (.pv (.lst ((mer p q).2.map .str))), some (.pv q.1.tree), some (.pv (.lst (q.2.map .str))), a8, a9, a10, a11, a12] st) := by
      rw [m1, m2]
      have pq : pcT q = .tup [q.1.tree, .lst (q.2.map .str)] := rfl
      rw [pq]
      generalize (p.2 ++ q.2).map PV.str = PQ at *
      generalize p.2.map PV.str = P2 at *
      generalize q.2.map PV.str = Q2 at *
      generalize p.1.tree = T at *
      generalize q.1.tree = T2 at *
      simp [forStep, cn]
    rw [s1]
    exact ih
theorem fns_loop {S : Sem} {st : Store} : ∀ (xs : List Sg) (t : Tm) (a0 a1 a2 a3 a5 a6 a7 a8 a9 a10 a11 a12 : Option LV), ∃ b8, forLoop (forStep S (.nm 8) [.asg (.nm 4) (.tup [.lit (.str [102, 117, 110]), .var 8, .var 4])]) (xs.map .str) [a0, a1, a2, a3, some (.pv t.tree), a5, a6, a7, a8, a9, a10, a11, a12] st =
    some (.nx [a0, a1, a2, a3, some (.pv (fns t xs).tree), a5, a6, a7, b8, a9, a10, a11, a12] st)
  | [], t, _, _, _, _, _, _, _, a8, _, _, _, _ => ⟨a8, rfl⟩
  | x :: xs, t, a0, a1, a2, a3, a5, a6, a7, a8, a9, a10, a11, a12 => by
    obtain ⟨b8, ih⟩ := fns_loop (S := S) (st := st) xs (.fn x t) a0 a1 a2 a3 a5 a6 a7 (some (.pv (.str x))) a9 a10 a11 a12
    refine ⟨b8, ?_⟩
    rw [List.map_cons, forLoop_cons]
    have s1 : forStep S (.nm 8) [.asg (.nm 4) (.tup [.lit (.str [102, 117, 110]), .var 8, .var 4])] (.str x) [a0, a1, a2, a3, some (.pv t.tree), a5, a6, a7, a8, a9, a10, a11, a12] st = some (.nx [a0, a1, a2, a3, some (.pv (Tm.fn x t).tree), a5, a6, a7, some (.pv (.str x)), a9, a10, a11, a12] st) := by
      simp [forStep, Tm.tree]
    rw [s1]
    exact ih
theorem term_drawn {n : Nat} {st : Store} {m : Nat} (h0 : 0 < m) (hm : m ≤ 13) (h : HasF st) : ∃ t st', (Pr.sem (n + 2)).call 28 [.ref 0, .pv (.int (m : Nat))] st = some (.ok (.pv (Tm.tree t)) st') ∧ Lk st st' ∧ TL m t := by
  suffices H : ∃ t st', Pr.cal (n + 2) 28 [.ref 0, .pv (.int (m : Nat))] st = some (.ok (.pv (Tm.tree t)) st') ∧ Lk st st' ∧ TL m t by
    obtain ⟨t, st', e, f, g⟩ := H
    exact ⟨t, st', call_lk e f, f, g⟩
  rw [cal_eq Pr (n + 1) 28 m28 _ _ rfl rfl]
  have dr : ∀ {st1 : Store}, Lk st st1 → ∀ {m : Int}, 0 < m → m < 1073741824 → ∃ (k : Nat) (st' : Store), (Pr.sem (n + 1)).call 27 [.ref 0, .pv (.int m)] st1 = some (.ok (.pv (.int (k : Int))) st') ∧ (k : Int) < m ∧ Lk st st' := fun h _ h1 h2 => lk_draw (n := n) hdraw h h1 h2
  generalize Pr.sem (n + 1) = S at dr ⊢
  have il := ini_lc (S := S) (st := st) hm (φ := [some (.ref 0), some (.pv (.int (m : Nat))), none, none, none, none, none, none, none, none, none, none, none]) rfl
  let I : Nat → Slots → Store → Prop := fun _ φ st1 => Lk st st1 ∧ ∃ ps tl, φ = psl m ps tl ∧ tl.length = 10 ∧ PI m ps
  obtain ⟨φ', st2, e2, f2, ps, tl, hφ, htl, hps⟩ := forLoop_inv I ((upto 0 (4 * m)).map .int) 0 (psl m ((List.range m).map ini) [none, none, none, none, none, none, none, none, none, none]) st ⟨Lk.refl h, _, _, rfl, rfl, ini_PI h0⟩ fun i x φ st1 _ hi => by
    obtain ⟨hf, ps, tl, hφ, htl, hps⟩ := hi
    subst hφ
    obtain ⟨ps', tl', st', e, h1, h2, h3⟩ := pc_turn dr hm hps x tl htl hf
    exact ⟨_, st', e, h2, ps', tl', rfl, h1, h3⟩
  subst hφ
  have hline : line = 16777216 := rfl
  have fv := forV_upto (n := 4 * m) (by omega) (forStep S (.nm 3) [.asg (.nm 9) (.call 27 [.var 0, .bi .len [.var 2]]), .asg (.tp [.nm 4, .nm 5]) (.idx (.var 2) (.var 9)), .iff (.boolop true [.cmp .gt (.bi .len [.var 5]) (.lit (.int 0)), .boolop false [.cmp .eq (.bi .len [.var 2]) (.lit (.int 1)), .cmp .eq (.call 27 [.var 0, .lit (.int 2)]) (.lit (.int 0))]]) [.asg (.nm 8) (.idx (.var 5) (.call 27 [.var 0, .bi .len [.var 5]])), .asg (.nm 2) (.bin .add (.bin .add (.slc (.var 2) false (.lit .non) true (.var 9)) (.lst false [.tup [.tup [.lit (.str [102, 117, 110]), .var 8, .var 4], .lc false (.var 12) (.nm 12) .val [.var 5] [.cmp .ne (.var 12) (.var 8)] [12]]])) (.slc (.var 2) true (.bin .add (.var 9) (.lit (.int 1))) false (.lit .non)))] [.iff (.cmp .gt (.bi .len [.var 2]) (.lit (.int 1))) [.asg (.nm 11) (.bin .mod (.bi .int [.bin .add (.bin .add (.var 9) (.lit (.int 1))) (.call 27 [.var 0, .bin .sub (.bi .len [.var 2]) (.lit (.int 1))])]) (.bi .len [.var 2])), .asg (.tp [.nm 6, .nm 7]) (.idx (.var 2) (.var 11)), .asg (.nm 2) (.bin .add (.lc false (.idx (.var 2) (.var 10)) (.nm 10) .range [.bi .len [.var 2]] [.cmp .nin (.var 10) (.lst false [.var 9, .var 11])] [10]) (.lst false [.tup [.tup [.lit (.str [117, 115, 101]), .var 4, .var 6], .bin .add (.var 5) (.var 7)]]))] []]]) (psl m ((List.range m).map ini) [none, none, none, none, none, none, none, none, none, none]) st
  rw [e2] at fv
  have km : ((4 * m : Nat) : Int) = 4 * (m : Int) := by push_cast; rfl
  rw [km] at fv
  obtain ⟨p, r, rfl⟩ := List.exists_cons_of_ne_nil hps.ne
  match tl, htl with
  | [a3, a4, a5, a6, a7, a8, a9, a10, a11, a12], _ =>
    have hns := hps.ns
    rw [sm_cons] at hns
    obtain ⟨b6, b7, e3⟩ := mer_loop (S := S) (st := st2) r p (some (.ref 0)) (some (.pv (.int (m : Nat)))) (some (.pv (.lst ((p :: r).map pcT)))) a3 a6 a7 a8 a9 a10 a11 a12 (by omega)
    obtain ⟨b8, e4⟩ := fns_loop (S := S) (st := st2) (r.foldl mer p).2 (r.foldl mer p).1 (some (.ref 0)) (some (.pv (.int (m : Nat)))) (some (.pv (.lst ((p :: r).map pcT)))) a3 (some (.pv (.lst ((r.foldl mer p).2.map .str)))) b6 b7 a8 a9 a10 a11 a12
    refine ⟨fns (r.foldl mer p).1 (r.foldl mer p).2, st2, ?_, f2, hps.end_⟩
    have bd : m28.body = (.asg (.nm 2) (.lc false (.tup [.tup [.lit (.str [118, 97, 114]), .bin .add (.lit (.str [120])) (.idx (.lit (.str [97, 98, 99, 100, 101, 102, 103, 104, 105, 106, 107, 108, 109])) (.var 10))], .lst false [.bin .add (.lit (.str [120])) (.idx (.lit (.str [97, 98, 99, 100, 101, 102, 103, 104, 105, 106, 107, 108, 109])) (.var 10))]]) (.nm 10) .range [.var 1] [] [10]) :: (.for_ (.nm 3) .range [.bin .mul (.lit (.int 4)) (.var 1)] [.asg (.nm 9) (.call 27 [.var 0, .bi .len [.var 2]]), .asg (.tp [.nm 4, .nm 5]) (.idx (.var 2) (.var 9)), .iff (.boolop true [.cmp .gt (.bi .len [.var 5]) (.lit (.int 0)), .boolop false [.cmp .eq (.bi .len [.var 2]) (.lit (.int 1)), .cmp .eq (.call 27 [.var 0, .lit (.int 2)]) (.lit (.int 0))]]) [.asg (.nm 8) (.idx (.var 5) (.call 27 [.var 0, .bi .len [.var 5]])), .asg (.nm 2) (.bin .add (.bin .add (.slc (.var 2) false (.lit .non) true (.var 9)) (.lst false [.tup [.tup [.lit (.str [102, 117, 110]), .var 8, .var 4], .lc false (.var 12) (.nm 12) .val [.var 5] [.cmp .ne (.var 12) (.var 8)] [12]]])) (.slc (.var 2) true (.bin .add (.var 9) (.lit (.int 1))) false (.lit .non)))] [.iff (.cmp .gt (.bi .len [.var 2]) (.lit (.int 1))) [.asg (.nm 11) (.bin .mod (.bi .int [.bin .add (.bin .add (.var 9) (.lit (.int 1))) (.call 27 [.var 0, .bin .sub (.bi .len [.var 2]) (.lit (.int 1))])]) (.bi .len [.var 2])), .asg (.tp [.nm 6, .nm 7]) (.idx (.var 2) (.var 11)), .asg (.nm 2) (.bin .add (.lc false (.idx (.var 2) (.var 10)) (.nm 10) .range [.bi .len [.var 2]] [.cmp .nin (.var 10) (.lst false [.var 9, .var 11])] [10]) (.lst false [.tup [.tup [.lit (.str [117, 115, 101]), .var 4, .var 6], .bin .add (.var 5) (.var 7)]]))] []]]) :: (.asg (.tp [.nm 4, .nm 5]) (.idx (.var 2) (.lit (.int 0)))) :: (.for_ (.tp [.nm 6, .nm 7]) .val [.slc (.var 2) true (.lit (.int 1)) false (.lit .non)] [.asg (.nm 4) (.tup [.lit (.str [117, 115, 101]), .var 4, .var 6]), .asg (.nm 5) (.bin .add (.var 5) (.var 7))]) :: (.for_ (.nm 8) .val [.var 5] [.asg (.nm 4) (.tup [.lit (.str [102, 117, 110]), .var 8, .var 4])]) :: [(.ret (.var 4))]) := rfl
    rw [bd]
    have s0 : exS S (.asg (.nm 2) (.lc false (.tup [.tup [.lit (.str [118, 97, 114]), .bin .add (.lit (.str [120])) (.idx (.lit (.str [97, 98, 99, 100, 101, 102, 103, 104, 105, 106, 107, 108, 109])) (.var 10))], .lst false [.bin .add (.lit (.str [120])) (.idx (.lit (.str [97, 98, 99, 100, 101, 102, 103, 104, 105, 106, 107, 108, 109])) (.var 10))]]) (.nm 10) .range [.var 1] [] [10])) ([.ref 0, .pv (.int (m : Nat))].map some ++ List.replicate (m28.nn - m28.ar) none) st = some (.nx (psl m ((List.range m).map ini) [none, none, none, none, none, none, none, none, none, none]) st) := by
      unfold psl
      generalize ((List.range m).map ini).map pcT = X at *
      simp [m28, il]
    have s1 : exS S (.for_ (.nm 3) .range [.bin .mul (.lit (.int 4)) (.var 1)] [.asg (.nm 9) (.call 27 [.var 0, .bi .len [.var 2]]), .asg (.tp [.nm 4, .nm 5]) (.idx (.var 2) (.var 9)), .iff (.boolop true [.cmp .gt (.bi .len [.var 5]) (.lit (.int 0)), .boolop false [.cmp .eq (.bi .len [.var 2]) (.lit (.int 1)), .cmp .eq (.call 27 [.var 0, .lit (.int 2)]) (.lit (.int 0))]]) [.asg (.nm 8) (.idx (.var 5) (.call 27 [.var 0, .bi .len [.var 5]])), .asg (.nm 2) (.bin .add (.bin .add (.slc (.var 2) false (.lit .non) true (.var 9)) (.lst false [.tup [.tup [.lit (.str [102, 117, 110]), .var 8, .var 4], .lc false (.var 12) (.nm 12) .val [.var 5] [.cmp .ne (.var 12) (.var 8)] [12]]])) (.slc (.var 2) true (.bin .add (.var 9) (.lit (.int 1))) false (.lit .non)))] [.iff (.cmp .gt (.bi .len [.var 2]) (.lit (.int 1))) [.asg (.nm 11) (.bin .mod (.bi .int [.bin .add (.bin .add (.var 9) (.lit (.int 1))) (.call 27 [.var 0, .bin .sub (.bi .len [.var 2]) (.lit (.int 1))])]) (.bi .len [.var 2])), .asg (.tp [.nm 6, .nm 7]) (.idx (.var 2) (.var 11)), .asg (.nm 2) (.bin .add (.lc false (.idx (.var 2) (.var 10)) (.nm 10) .range [.bi .len [.var 2]] [.cmp .nin (.var 10) (.lst false [.var 9, .var 11])] [10]) (.lst false [.tup [.tup [.lit (.str [117, 115, 101]), .var 4, .var 6], .bin .add (.var 5) (.var 7)]]))] []]]) (psl m ((List.range m).map ini) [none, none, none, none, none, none, none, none, none, none]) st = some (.nx (psl m (p :: r) [a3, a4, a5, a6, a7, a8, a9, a10, a11, a12]) st2) := by
      have ev : evEs S [.bin .mul (.lit (.int 4)) (.var 1)] (psl m ((List.range m).map ini) [none, none, none, none, none, none, none, none, none, none]) st = some (.ok [.pv (.int (4 * (m : Int)))] st) := by
        have mu : doBin .mul (.int 4) (.int (m : Int)) = some (.int (4 * (m : Int))) := rfl
        simp [mu]
      rw [exS_for, ev, Rs.bf_ok, fv]
    have s2 : exS S (.asg (.tp [.nm 4, .nm 5]) (.idx (.var 2) (.lit (.int 0)))) (psl m (p :: r) [a3, a4, a5, a6, a7, a8, a9, a10, a11, a12]) st2 = some (.nx [some (.ref 0), some (.pv (.int (m : Nat))), some (.pv (.lst ((p :: r).map pcT))), a3, some (.pv p.1.tree), some (.pv (.lst (p.2.map .str))), a6, a7, a8, a9, a10, a11, a12] st2) := by
      have pe : pcT p = .tup [p.1.tree, .lst (p.2.map .str)] := rfl
      simp [pe]
    have s3 : exS S (.for_ (.tp [.nm 6, .nm 7]) .val [.slc (.var 2) true (.lit (.int 1)) false (.lit .non)] [.asg (.nm 4) (.tup [.lit (.str [117, 115, 101]), .var 4, .var 6]), .asg (.nm 5) (.bin .add (.var 5) (.var 7))]) [some (.ref 0), some (.pv (.int (m : Nat))), some (.pv (.lst ((p :: r).map pcT))), a3, some (.pv p.1.tree), some (.pv (.lst (p.2.map .str))), a6, a7, a8, a9, a10, a11, a12] st2 = some (.nx [some (.ref 0), some (.pv (.int (m : Nat))), some (.pv (.lst ((p :: r).map pcT))), a3, some (.pv (r.foldl mer p).1.tree), some (.pv (.lst ((r.foldl mer p).2.map .str))), b6, b7, a8, a9, a10, a11, a12] st2) := by
      have c1 : cut ((p :: r).map pcT) (some 1) none = r.map pcT := cut1 _ _
      have ev : evEs S [.slc (.var 2) true (.lit (.int 1)) false (.lit .non)] [some (.ref 0), some (.pv (.int (m : Nat))), some (.pv (.lst ((p :: r).map pcT))), a3, some (.pv p.1.tree), some (.pv (.lst (p.2.map .str))), a6, a7, a8, a9, a10, a11, a12] st2 = some (.ok [.pv (.lst (r.map pcT))] st2) := by
        generalize (p :: r).map pcT = X at *
        simp [optL, c1]
      have fw : forV .val [.pv (.lst (r.map pcT))] (forStep S (.tp [.nm 6, .nm 7]) [.asg (.nm 4) (.tup [.lit (.str [117, 115, 101]), .var 4, .var 6]), .asg (.nm 5) (.bin .add (.var 5) (.var 7))]) = forLoop (forStep S (.tp [.nm 6, .nm 7]) [.asg (.nm 4) (.tup [.lit (.str [117, 115, 101]), .var 4, .var 6]), .asg (.nm 5) (.bin .add (.var 5) (.var 7))]) (r.map pcT) := by
        funext φ st
        exact forV_of (ps := [.lst (r.map pcT)]) rfl _ φ st
      rw [exS_for, ev, Rs.bf_ok, fw, e3]
    have s4 : exS S (.for_ (.nm 8) .val [.var 5] [.asg (.nm 4) (.tup [.lit (.str [102, 117, 110]), .var 8, .var 4])]) [some (.ref 0), some (.pv (.int (m : Nat))), some (.pv (.lst ((p :: r).map pcT))), a3, some (.pv (r.foldl mer p).1.tree), some (.pv (.lst ((r.foldl mer p).2.map .str))), b6, b7, a8, a9, a10, a11, a12] st2 = some (.nx [some (.ref 0), some (.pv (.int (m : Nat))), some (.pv (.lst ((p :: r).map pcT))), a3, some (.pv (fns (r.foldl mer p).1 (r.foldl mer p).2).tree), some (.pv (.lst ((r.foldl mer p).2.map .str))), b6, b7, b8, a9, a10, a11, a12] st2) := by
      have fw : forV .val [.pv (.lst ((r.foldl mer p).2.map .str))] (forStep S (.nm 8) [.asg (.nm 4) (.tup [.lit (.str [102, 117, 110]), .var 8, .var 4])]) = forLoop (forStep S (.nm 8) [.asg (.nm 4) (.tup [.lit (.str [102, 117, 110]), .var 8, .var 4])]) ((r.foldl mer p).2.map .str) := by
        funext φ st
        exact forV_of (ps := [.lst ((r.foldl mer p).2.map .str)]) rfl _ φ st
      have ev : evEs S [.var 5] [some (.ref 0), some (.pv (.int (m : Nat))), some (.pv (.lst ((p :: r).map pcT))), a3, some (.pv (r.foldl mer p).1.tree), some (.pv (.lst ((r.foldl mer p).2.map .str))), b6, b7, a8, a9, a10, a11, a12] st2 = some (.ok [.pv (.lst ((r.foldl mer p).2.map .str))] st2) := by simp
      rw [exS_for, ev, Rs.bf_ok, fw, e4]
    rw [exSs_cons, s0, seqS_nx, exSs_cons, s1, seqS_nx, exSs_cons, s2, seqS_nx, exSs_cons, s3, seqS_nx, exSs_cons, s4, seqS_nx]
    simp
end Z51
end

section
namespace Z51
open Z
/-! ### codes of terms -/
inductive Cx where
  | leaf (s : Sg)
  | node (a b : Cx)
def Cx.tree : Cx → PV
  | .leaf s => .str s
  | .node a b => .tup [a.tree, b.tree]
def Cx.dep : Cx → Nat
  | .leaf _ => 0
  | .node a b => 1 + max a.dep b.dep
def Cx.lv : Cx → Nat
  | .leaf _ => 1
  | .node a b => a.lv + b.lv
/-- names that stand in it -/
def Cx.fr : Cx → Nat
  | .leaf s => if s.length = 2 then 1 else 0
  | .node a b => a.fr + b.fr
def oc (y : Sg) : Cx → Nat
  | .leaf s => if s = y then 1 else 0
  | .node a b => oc y a + oc y b
def inn (x : Sg) (c : Cx) : Bool := decide (0 < oc x c)
def abs (x : Sg) : Cx → Cx
  | .leaf _ => .leaf [73]
  | .node f g => if inn x g then .node (.node (.leaf [66]) f) (abs x g) else .node (.node (.leaf [67]) (abs x f)) g
def code : Tm → Cx
  | .var x => .leaf x
  | .use a b => .node (code a) (code b)
  | .fn x b => abs x (code b)
def tri : Nat → Nat
  | 0 => 0
  | n + 1 => tri n + (n + 1)
/-- what may come yet -/
def NN (p q : Nat) : Nat := q * (1 + p) + tri p
def Cx.phi : Cx → Nat
  | .leaf _ => 1
  | .node a b => a.phi + b.phi + NN a.fr b.fr
theorem NN_q (p q : Nat) : NN p (q + 1) = NN p q + (1 + p) := by
  unfold NN
  rw [Nat.succ_mul]
  omega
theorem NN_p (p q : Nat) : NN (p + 1) q = NN p q + q + (p + 1) := by
  unfold NN
  have : q * (1 + (p + 1)) = q * (1 + p) + q := by rw [show 1 + (p + 1) = (1 + p) + 1 by omega, Nat.mul_succ]
  rw [this]
  simp only [tri]
  omega
theorem NN_0 (q : Nat) : NN 0 q = q := by simp [NN, tri]
theorem NN_mono : ∀ {p p' q q' : Nat}, p ≤ p' → q ≤ q' → NN p q ≤ NN p' q' := by
  have h1 : ∀ (d p q : Nat), NN p q ≤ NN (p + d) q := by
    intro d
    induction d with
    | zero => intro p q; exact Nat.le_refl _
    | succ d ih =>
      intro p q
      have := ih p q
      have := NN_p (p + d) q
      rw [show p + (d + 1) = p + d + 1 by omega]
      omega
  have h2 : ∀ (d p q : Nat), NN p q ≤ NN p (q + d) := by
    intro d
    induction d with
    | zero => intro p q; exact Nat.le_refl _
    | succ d ih =>
      intro p q
      have := ih p q
      have := NN_q p (q + d)
      rw [show q + (d + 1) = q + d + 1 by omega]
      omega
  intro p p' q q' hp hq
  obtain ⟨a, rfl⟩ := Nat.exists_eq_add_of_le hp
  obtain ⟨b, rfl⟩ := Nat.exists_eq_add_of_le hq
  exact Nat.le_trans (h1 a p q) (h2 b (p + a) q)
theorem lv_phi : ∀ c : Cx, c.lv ≤ c.phi
  | .leaf _ => Nat.le_refl _
  | .node a b => by
    have := lv_phi a
    have := lv_phi b
    simp only [Cx.lv, Cx.phi]
    omega
theorem dep_lv : ∀ c : Cx, c.dep < c.lv
  | .leaf _ => Nat.zero_lt_one
  | .node a b => by
    have := dep_lv a
    have := dep_lv b
    simp only [Cx.lv, Cx.dep]
    omega
theorem fr_lv : ∀ c : Cx, c.fr ≤ c.lv
  | .leaf _ => by simp only [Cx.fr, Cx.lv]; split <;> omega
  | .node a b => by
    have := fr_lv a
    have := fr_lv b
    simp only [Cx.lv, Cx.fr]
    omega
theorem abs_ok {x : Sg} (hx : x.length = 2) : ∀ c : Cx, oc x c = 1 → (abs x c).phi ≤ c.phi ∧ (abs x c).fr + 1 = c.fr ∧ ∀ y : Sg, y.length = 2 → oc y (abs x c) = if y = x then 0 else oc y c
  | .leaf s, h => by
    simp only [oc] at h
    have hs : s = x := by
      by_cases e : s = x
      · exact e
      · rw [if_neg e] at h; omega
    subst hs
    refine ⟨Nat.le_refl _, ?_, fun y hy => ?_⟩
    · simp [abs, Cx.fr, hx]
    · have e : ¬ [73] = y := fun z => by rw [← z] at hy; simp at hy
      simp only [abs, oc, if_neg e]
      by_cases w : y = s
      · rw [if_pos w]
      · rw [if_neg w, if_neg (fun z => w z.symm)]
  | .node f g, h => by
    simp only [oc] at h
    have e1 : ∀ y : Sg, y.length = 2 → ¬ [66] = y := fun y hy z => by rw [← z] at hy; simp at hy
    have e2 : ∀ y : Sg, y.length = 2 → ¬ [67] = y := fun y hy z => by rw [← z] at hy; simp at hy
    by_cases hg : 0 < oc x g
    · have e : abs x (.node f g) = .node (.node (.leaf [66]) f) (abs x g) := by simp only [abs, inn, decide_eq_true hg, if_true]
      rw [e]
      obtain ⟨i1, i2, i3⟩ := abs_ok hx g (by omega)
      refine ⟨?_, ?_, fun y hy => ?_⟩
      · simp only [Cx.phi, Cx.fr, List.length_cons, List.length_nil]
        rw [← i2, NN_q]
        simp only [Nat.zero_add, show ¬ (1 : Nat) = 2 by decide, if_false, NN_0]
        omega
      · simp only [Cx.fr, List.length_cons, List.length_nil]
        simp only [Nat.zero_add, show ¬ (1 : Nat) = 2 by decide, if_false]
        omega
      · simp only [oc, i3 y hy, if_neg (e1 y hy)]
        by_cases w : y = x
        · rw [if_pos w, if_pos w, w]; omega
        · rw [if_neg w, if_neg w]; omega
    · have e : abs x (.node f g) = .node (.node (.leaf [67]) (abs x f)) g := by simp only [abs, inn, decide_eq_false hg, Bool.false_eq_true, if_false]
      rw [e]
      obtain ⟨i1, i2, i3⟩ := abs_ok hx f (by omega)
      refine ⟨?_, ?_, fun y hy => ?_⟩
      · simp only [Cx.phi, Cx.fr, List.length_cons, List.length_nil]
        rw [← i2, NN_p]
        simp only [Nat.zero_add, show ¬ (1 : Nat) = 2 by decide, if_false, NN_0]
        omega
      · simp only [Cx.fr, List.length_cons, List.length_nil]
        simp only [Nat.zero_add, show ¬ (1 : Nat) = 2 by decide, if_false]
        omega
      · simp only [oc, i3 y hy, if_neg (e2 y hy)]
        by_cases w : y = x
        · rw [if_pos w, if_pos w, w]; omega
        · rw [if_neg w, if_neg w]; omega
/-- the leaves are joiners or names -/
def Cx.ok : Cx → Prop
  | .leaf s => s = [66] ∨ s = [67] ∨ s = [73] ∨ s.length = 2
  | .node a b => a.ok ∧ b.ok
theorem abs_okl (x : Sg) : ∀ c : Cx, c.ok → (abs x c).ok
  | .leaf _, _ => .inr (.inr (.inl rfl))
  | .node f g, h => by
    simp only [abs]
    split
    · exact ⟨⟨.inl rfl, h.1⟩, abs_okl x g h.2⟩
    · exact ⟨⟨.inr (.inl rfl), abs_okl x f h.1⟩, h.2⟩
/-- names of two letters -/
def Tm.two (t : Tm) : Prop := (∀ y ∈ t.names, y.length = 2) ∧ ∀ y ∈ t.funs, y.length = 2
theorem two_fn {x : Sg} {b : Tm} (h : (Tm.fn x b).two) : x.length = 2 ∧ b.two := ⟨h.2 x (by simp [Tm.funs]), h.1, fun y hy => h.2 y (by simp [Tm.funs, hy])⟩
theorem two_use {a b : Tm} (h : (Tm.use a b).two) : a.two ∧ b.two := ⟨⟨fun y hy => h.1 y (by simp [Tm.names, hy]), fun y hy => h.2 y (by simp [Tm.funs, hy])⟩, ⟨fun y hy => h.1 y (by simp [Tm.names, hy]), fun y hy => h.2 y (by simp [Tm.funs, hy])⟩⟩
def Mx : Nat → Nat
  | 0 => 0
  | 1 => 1
  | 2 => 5
  | 3 => 12
  | 4 => 23
  | 5 => 39
  | 6 => 61
  | 7 => 90
  | 8 => 127
  | 9 => 173
  | _ => 0
theorem Mx_ok : ∀ i < 10, ∀ j < 10, 0 < i → 0 < j → i + j ≤ 9 → Mx i + Mx j + NN i j ≤ Mx (i + j) := by decide
theorem vars_pos : ∀ t : Tm, 0 < t.vars
  | .var _ => Nat.zero_lt_one
  | .fn _ b => vars_pos b
  | .use a b => by have := vars_pos a; simp only [Tm.vars]; omega
/-- the greatest depth of a code on the way -/
def cdp : Tm → Nat
  | .var _ => 0
  | .use a b => max (cdp a) (cdp b)
  | .fn _ b => max (cdp b) (code b).dep
structure CO (t : Tm) : Prop where
  phi : (code t).phi ≤ Mx t.vars
  fr : (code t).fr ≤ t.vars
  oc : ∀ y : Sg, y.length = 2 → oc y (code t) + cn y t.funs = cn y t.names
  ok : (code t).ok
  cd : cdp t ≤ Mx 9
theorem Mx_le : ∀ i < 10, Mx i ≤ Mx 9 := by decide
theorem code_ok : ∀ (t : Tm) (ra : List Sg), Ln ra t → t.two → t.vars ≤ 9 → CO t
  | .var x, ra, h, w, hv => by
    have hx : x.length = 2 := w.1 x (by simp [Tm.names])
    refine ⟨by simp [code, Cx.phi, Tm.vars, Mx], ?_, fun y hy => ?_, .inr (.inr (.inr hx)), Nat.zero_le _⟩
    · simp [code, Cx.fr, hx, Tm.vars]
    · simp only [code, Z51.oc, Tm.names, Tm.funs, cn_cons, cn_nil]
      omega
  | .use a b, ra, h, w, hv => by
    obtain ⟨ha, hb⟩ := h.use_
    obtain ⟨wa, wb⟩ := two_use w
    have pa := vars_pos a
    have pb := vars_pos b
    simp only [Tm.vars] at hv
    have A := code_ok a ra ha wa (by omega)
    have B := code_ok b ra hb wb (by omega)
    refine ⟨?_, ?_, fun y hy => ?_, ⟨A.ok, B.ok⟩, ?_⟩
    · have := A.phi
      have := B.phi
      have := NN_mono A.fr B.fr
      have := Mx_ok a.vars (by omega) b.vars (by omega) pa pb (by omega)
      simp only [code, Cx.phi, Tm.vars]
      omega
    · have := A.fr
      have := B.fr
      simp only [code, Cx.fr, Tm.vars]
      omega
    · have := A.oc y hy
      have := B.oc y hy
      simp only [code, Z51.oc, Tm.names, Tm.funs, cn_app]
      omega
    · have := A.cd
      have := B.cd
      simp only [cdp]
      omega
  | .fn x b, ra, h, w, hv => by
    obtain ⟨hb, h1⟩ := h.fn_
    obtain ⟨wx, wb⟩ := two_fn w
    simp only [Tm.vars] at hv
    have B := code_ok b (x :: ra) hb wb hv
    have ox : oc x (code b) = 1 := by
      have := B.oc x wx
      have := hb.dj x (by simp)
      omega
    obtain ⟨i1, i2, i3⟩ := abs_ok wx (code b) ox
    refine ⟨?_, ?_, fun y hy => ?_, abs_okl x _ B.ok, ?_⟩
    · have := B.phi
      simp only [code, Tm.vars]
      omega
    · have := B.fr
      simp only [code, Tm.vars]
      omega
    · have := B.oc y hy
      have dj := hb.dj x (by simp)
      simp only [code, i3 y hy, Tm.names, Tm.funs, cn_cons]
      by_cases e : y = x
      · subst e
        rw [if_pos rfl, if_pos rfl]
        omega
      · rw [if_neg e, if_neg (fun z => e z.symm)]
        omega
    · have := B.cd
      have p1 := B.phi
      have p2 := lv_phi (code b)
      have p3 := dep_lv (code b)
      have p4 := Mx_le b.vars (by omega)
      simp only [cdp]
      omega
/-- a code without names -/
def Cx.cd : Cx → Cd
  | .leaf s => .leaf (s.headD 0)
  | .node a b => .node a.cd b.cd
theorem cd_of : ∀ c : Cx, c.ok → (∀ y : Sg, y.length = 2 → oc y c = 0) → c.cd.good ∧ c.cd.tree = c.tree ∧ c.cd.many = c.lv
  | .leaf s, h, k => by
    rcases h with z | z | z | z
    · subst z; exact ⟨.inl rfl, rfl, rfl⟩
    · subst z; exact ⟨.inr (.inl rfl), rfl, rfl⟩
    · subst z; exact ⟨.inr (.inr rfl), rfl, rfl⟩
    · have := k s z
      simp [oc] at this
  | .node a b, h, k => by
    obtain ⟨h1, h2, h3⟩ := cd_of a h.1 fun y hy => by have := k y hy; simp only [oc] at this; omega
    obtain ⟨k1, k2, k3⟩ := cd_of b h.2 fun y hy => by have := k y hy; simp only [oc] at this; omega
    exact ⟨⟨h1, k1⟩, by simp only [Cx.cd, Cd.tree, Cx.tree, h2, k2], by simp only [Cx.cd, Cd.many, Cx.lv, h3, k3]⟩
theorem TL.code {m : Nat} {t : Tm} (T : TL m t) (hm : m ≤ 9) : CO t ∧ (code t).cd.good ∧ (code t).cd.tree = (code t).tree ∧ (code t).cd.many ≤ Mx m := by
  have hv : t.vars = m := by rw [← names_vars]; exact T.vs
  have C := code_ok t [] T.lc.ln ⟨T.two, T.fu⟩ (by omega)
  have eq : ∀ y, cn y t.names = cn y t.funs := fun y => by
    have := T.lc.ln.oc y
    by_cases h : cn y t.names = 0
    · omega
    · have z : y ∈ t.names := cn_pos.mp (by omega)
      have w := names_mem t [] T.lc.ln.cl y z
      rcases w with w | w
      · simp at w
      · have := cn_pos.mpr w
        have := T.lc.ln.nd y
        omega
  obtain ⟨h1, h2, h3⟩ := cd_of (Z51.code t) C.ok fun y hy => by
    have := C.oc y hy
    have := eq y
    omega
  refine ⟨C, h1, h2, ?_⟩
  have := C.phi
  have := lv_phi (Z51.code t)
  rw [hv] at *
  omega
end Z51
end

section
namespace Z51
open Z
/-! ### codes of terms, walked -/
theorem use_str {n : Nat} (s : Sg) (st : Store) : (Pr.sem (n + 1)).call 12 [.pv (.str s)] st = some (.ok (.pv (.bl false)) st) := call1 (st1 := []) rfl rfl
theorem inn_node (x : Sg) (f g : Cx) : inn x (.node f g) = (inn x f || inn x g) := by
  apply Bool.eq_iff_iff.mpr
  simp only [inn, Bool.or_eq_true, decide_eq_true_eq]
  show 0 < oc x f + oc x g ↔ _
  omega
theorem inn_leaf (x s : Sg) : inn x (.leaf s) = decide (s = x) := by
  simp only [inn, oc]
  by_cases h : s = x <;> simp [h]
theorem stands_of (x : Sg) : ∀ (c : Cx) (n : Nat), c.dep + 2 ≤ n → Pr.cal n 13 [.pv (.str x), .pv c.tree] [] = some (.ok (.pv (.bl (inn x c))) [])
  | .leaf s, n, h => by
    obtain ⟨n, rfl⟩ : ∃ m, n = m + 2 := ⟨n - 2, by omega⟩
    rw [cal_eq Pr (n + 1) 13 m13 _ _ rfl rfl, inn_leaf]
    have u := use_str (n := n) s []
    simp [m13, Cx.tree, u]
  | .node a b, n, h => by
    simp only [Cx.dep] at h
    obtain ⟨n, rfl⟩ : ∃ m, n = m + 2 := ⟨n - 2, by omega⟩
    rw [cal_eq Pr (n + 1) 13 m13 _ _ rfl rfl, inn_node]
    have u := use_node (n := n) (st := []) a.tree b.tree
    have q1 := call2 (P := Pr) (f := 13) (st := []) rfl (stands_of x a (n + 1) (by omega))
    have q2 := call2 (P := Pr) (f := 13) (st := []) rfl (stands_of x b (n + 1) (by omega))
    simp only [Cx.tree]
    generalize a.tree = A at *
    generalize b.tree = B at *
    generalize inn x b = v at *
    generalize inn x a = w at *
    cases w <;> simp [m13, u, q1, q2]
theorem cof_of (x : Sg) : ∀ (c : Cx) (n : Nat), c.dep + 3 ≤ n → Pr.cal n 14 [.pv (.str x), .pv c.tree] [] = some (.ok (.pv (abs x c).tree) [])
  | .leaf s, n, h => by
    obtain ⟨n, rfl⟩ : ∃ m, n = m + 2 := ⟨n - 2, by omega⟩
    rw [cal_eq Pr (n + 1) 14 m14 _ _ rfl rfl]
    have u := use_str (n := n) s []
    simp [m14, Cx.tree, abs, u]
  | .node a b, n, h => by
    simp only [Cx.dep] at h
    obtain ⟨n, rfl⟩ : ∃ m, n = m + 2 := ⟨n - 2, by omega⟩
    rw [cal_eq Pr (n + 1) 14 m14 _ _ rfl rfl]
    have u := use_node (n := n) (st := []) a.tree b.tree
    have s1 := call2 (P := Pr) (f := 13) (st := []) rfl (stands_of x b (n + 1) (by omega))
    have q1 := call2 (P := Pr) (f := 14) (st := []) rfl (cof_of x a (n + 1) (by omega))
    have q2 := call2 (P := Pr) (f := 14) (st := []) rfl (cof_of x b (n + 1) (by omega))
    cases hb : inn x b with
    | true =>
      have e : abs x (.node a b) = .node (.node (.leaf [66]) a) (abs x b) := by simp only [abs, hb, if_true]
      rw [hb] at s1
      rw [e]
      simp only [Cx.tree]
      generalize (abs x b).tree = AB at *
      generalize a.tree = A at *
      generalize b.tree = B at *
      simp [m14, u, s1, q2]
    | false =>
      have e : abs x (.node a b) = .node (.node (.leaf [67]) (abs x a)) b := by simp only [abs, hb, Bool.false_eq_true, if_false]
      rw [hb] at s1
      rw [e]
      simp only [Cx.tree]
      generalize (abs x a).tree = AB at *
      generalize a.tree = A at *
      generalize b.tree = B at *
      simp [m14, u, s1, q1]
theorem cot_of : ∀ (t : Tm) (n : Nat), t.dep + cdp t + 3 ≤ n → Pr.cal n 15 [.pv t.tree] [] = some (.ok (.pv (code t).tree) [])
  | .var x, n, h => by
    obtain ⟨n, rfl⟩ : ∃ m, n = m + 1 := ⟨n - 1, by omega⟩
    rw [cal_eq Pr n 15 m15 _ _ rfl rfl]
    simp [m15, Tm.tree, code, Cx.tree]
  | .use a b, n, h => by
    simp only [Tm.dep, cdp] at h
    obtain ⟨n, rfl⟩ : ∃ m, n = m + 1 := ⟨n - 1, by omega⟩
    rw [cal_eq Pr n 15 m15 _ _ rfl rfl]
    have q1 := call1 (P := Pr) (f := 15) (st := []) rfl (cot_of a n (by omega))
    have q2 := call1 (P := Pr) (f := 15) (st := []) rfl (cot_of b n (by omega))
    simp only [Tm.tree, code, Cx.tree]
    generalize (code a).tree = CA at *
    generalize (code b).tree = CB at *
    generalize a.tree = A at *
    generalize b.tree = B at *
    simp [m15, q1, q2]
  | .fn x b, n, h => by
    simp only [Tm.dep, cdp] at h
    obtain ⟨n, rfl⟩ : ∃ m, n = m + 1 := ⟨n - 1, by omega⟩
    rw [cal_eq Pr n 15 m15 _ _ rfl rfl]
    have q1 := call1 (P := Pr) (f := 15) (st := []) rfl (cot_of b n (by omega))
    have q2 := call2 (P := Pr) (f := 14) (st := []) rfl (cof_of x (code b) n (by omega))
    simp only [Tm.tree, code]
    generalize (abs x (code b)).tree = CA at *
    generalize (code b).tree = CB at *
    generalize b.tree = B at *
    simp [m15, q1, q2]
/-! the law's own -/
theorem lwithin_of (x : Sg) : ∀ (c : Cx) (n : Nat), c.dep + 1 ≤ n → Pr.cal n 37 [.pv (.str x), .pv c.tree] [] = some (.ok (.pv (.bl (inn x c))) [])
  | .leaf s, n, h => by
    obtain ⟨n, rfl⟩ : ∃ m, n = m + 1 := ⟨n - 1, by omega⟩
    rw [cal_eq Pr n 37 m37 _ _ rfl rfl, inn_leaf]
    simp [m37, Cx.tree, isTy]
  | .node a b, n, h => by
    simp only [Cx.dep] at h
    obtain ⟨n, rfl⟩ : ∃ m, n = m + 1 := ⟨n - 1, by omega⟩
    rw [cal_eq Pr n 37 m37 _ _ rfl rfl, inn_node]
    have q1 := call2 (P := Pr) (f := 37) (st := []) rfl (lwithin_of x a n (by omega))
    have q2 := call2 (P := Pr) (f := 37) (st := []) rfl (lwithin_of x b n (by omega))
    simp only [Cx.tree]
    generalize a.tree = A at *
    generalize b.tree = B at *
    generalize inn x b = v at *
    generalize inn x a = w at *
    cases w <;> simp [m37, isTy, q1, q2]
theorem lover_of (x : Sg) : ∀ (c : Cx) (n : Nat), c.dep + 2 ≤ n → Pr.cal n 36 [.pv (.str x), .pv c.tree] [] = some (.ok (.pv (abs x c).tree) [])
  | .leaf s, n, h => by
    obtain ⟨n, rfl⟩ : ∃ m, n = m + 1 := ⟨n - 1, by omega⟩
    rw [cal_eq Pr n 36 m36 _ _ rfl rfl]
    simp [m36, Cx.tree, abs, isTy]
  | .node a b, n, h => by
    simp only [Cx.dep] at h
    obtain ⟨n, rfl⟩ : ∃ m, n = m + 1 := ⟨n - 1, by omega⟩
    rw [cal_eq Pr n 36 m36 _ _ rfl rfl]
    have s1 := call2 (P := Pr) (f := 37) (st := []) rfl (lwithin_of x b n (by omega))
    have q1 := call2 (P := Pr) (f := 36) (st := []) rfl (lover_of x a n (by omega))
    have q2 := call2 (P := Pr) (f := 36) (st := []) rfl (lover_of x b n (by omega))
    cases hb : inn x b with
    | true =>
      have e : abs x (.node a b) = .node (.node (.leaf [66]) a) (abs x b) := by simp only [abs, hb, if_true]
      rw [hb] at s1
      rw [e]
      simp only [Cx.tree]
      generalize (abs x b).tree = AB at *
      generalize a.tree = A at *
      generalize b.tree = B at *
      simp [m36, isTy, s1, q2]
    | false =>
      have e : abs x (.node a b) = .node (.node (.leaf [67]) (abs x a)) b := by simp only [abs, hb, Bool.false_eq_true, if_false]
      rw [hb] at s1
      rw [e]
      simp only [Cx.tree]
      generalize (abs x a).tree = AB at *
      generalize a.tree = A at *
      generalize b.tree = B at *
      simp [m36, isTy, s1, q1]
theorem lcode_of : ∀ (t : Tm) (n : Nat), t.dep + cdp t + 3 ≤ n → Pr.cal n 35 [.pv t.tree] [] = some (.ok (.pv (code t).tree) [])
  | .var x, n, h => by
    obtain ⟨n, rfl⟩ : ∃ m, n = m + 1 := ⟨n - 1, by omega⟩
    rw [cal_eq Pr n 35 m35 _ _ rfl rfl]
    simp [m35, Tm.tree, code, Cx.tree]
  | .use a b, n, h => by
    simp only [Tm.dep, cdp] at h
    obtain ⟨n, rfl⟩ : ∃ m, n = m + 1 := ⟨n - 1, by omega⟩
    rw [cal_eq Pr n 35 m35 _ _ rfl rfl]
    have q1 := call1 (P := Pr) (f := 35) (st := []) rfl (lcode_of a n (by omega))
    have q2 := call1 (P := Pr) (f := 35) (st := []) rfl (lcode_of b n (by omega))
    simp only [Tm.tree, code, Cx.tree]
    generalize (code a).tree = CA at *
    generalize (code b).tree = CB at *
    generalize a.tree = A at *
    generalize b.tree = B at *
    simp [m35, q1, q2]
  | .fn x b, n, h => by
    simp only [Tm.dep, cdp] at h
    obtain ⟨n, rfl⟩ : ∃ m, n = m + 1 := ⟨n - 1, by omega⟩
    rw [cal_eq Pr n 35 m35 _ _ rfl rfl]
    have q1 := call1 (P := Pr) (f := 35) (st := []) rfl (lcode_of b n (by omega))
    have q2 := call2 (P := Pr) (f := 36) (st := []) rfl (lover_of x (code b) n (by omega))
    simp only [Tm.tree, code]
    generalize (abs x (code b)).tree = CA at *
    generalize (code b).tree = CB at *
    generalize b.tree = B at *
    simp [m35, q1, q2]
/-- _law_joiners -/
def Cd.jo : Cd → List PV
  | .leaf j => [.str [j]]
  | .node a b => a.jo ++ b.jo
theorem jo_len : ∀ c : Cd, c.jo.length = c.many
  | .leaf _ => rfl
  | .node a b => by simp only [Cd.jo, List.length_append, Cd.many, jo_len a, jo_len b]
theorem joiners_of : ∀ (c : Cd) (n : Nat), c.dep + 1 ≤ n → c.many ≤ 1000 → Pr.cal n 38 [.pv c.tree] [] = some (.ok (.pv (.lst c.jo)) [])
  | .leaf j, n, h, _ => by
    obtain ⟨n, rfl⟩ : ∃ m, n = m + 1 := ⟨n - 1, by omega⟩
    rw [cal_eq Pr n 38 m38 _ _ rfl rfl]
    simp [m38, Cd.tree, Cd.jo, isTy]
  | .node a b, n, h, hm => by
    simp only [Cd.dep] at h
    simp only [Cd.many] at hm
    obtain ⟨n, rfl⟩ : ∃ m, n = m + 1 := ⟨n - 1, by omega⟩
    rw [cal_eq Pr n 38 m38 _ _ rfl rfl]
    have q1 := call1 (P := Pr) (f := 38) (st := []) rfl (joiners_of a n (by omega) (by omega))
    have q2 := call1 (P := Pr) (f := 38) (st := []) rfl (joiners_of b n (by omega) (by omega))
    have hline : line = 16777216 := rfl
    have cc : doBin .add (.lst a.jo) (.lst b.jo) = some (.lst (a.jo ++ b.jo)) := cat_lst (by rw [jo_len, jo_len]; omega)
    simp only [Cd.tree, Cd.jo]
    generalize a.tree = A at *
    generalize b.tree = B at *
    generalize a.jo ++ b.jo = J at *
    simp [m38, isTy, q1, q2, cc]
end Z51
end

section
namespace Z51
open Z
theorem cps_app (a b : PySem.Str) : (a ++ b).cps.toList = a.cps.toList ++ b.cps.toList := by
  show (a.cps ++ b.cps).toList = _
  exact Array.toList_append
theorem shown_two (a b : PV) : shown (.tup [a, b]) = 40 :: (shown a ++ (44 :: 32 :: (shown b ++ [41]))) := by
  have e1 : PySem.PyData.shown (toD (.tup [a, b])) = ("(" : PySem.Str) ++ (PySem.PyData.shown (toD a) ++ ", " ++ PySem.PyData.shown (toD b)) ++ (")" : PySem.Str) := rfl
  unfold shown
  rw [e1]
  simp only [cps_app]
  have p1 : (("(" : PySem.Str)).cps.toList = [40] := by decide
  have p2 : ((", " : PySem.Str)).cps.toList = [44, 32] := by decide
  have p3 : ((")" : PySem.Str)).cps.toList = [41] := by decide
  rw [p1, p2, p3]
  simp
theorem shown_lf {x : Nat} (h : lf x) : shown (.str [x]) = [39, x, 39] := by
  rcases h with z | z | z <;> subst z <;> decide +kernel
theorem shown_tree : ∀ c : Cd, c.good → okS (shown c.tree) = true ∧ (shown c.tree).length + 4 = 7 * c.many
  | .leaf x, g => by
    have hx : lf x := g
    simp only [Cd.tree, shown_lf hx]
    rcases hx with z | z | z <;> subst z <;> exact ⟨by decide, by decide⟩
  | .node a b, g => by
    obtain ⟨a1, a2⟩ := shown_tree a g.1
    obtain ⟨b1, b2⟩ := shown_tree b g.2
    simp only [Cd.tree, shown_two, Cd.many]
    refine ⟨?_, by simp; omega⟩
    simp only [okS, List.all_eq_true, decide_eq_true_eq] at a1 b1 ⊢
    intro y hy
    simp at hy
    rcases hy with z | z | z | z | z | z
    · omega
    · exact a1 y z
    · omega
    · omega
    · exact b1 y z
    · omega
theorem showable_tree : ∀ c : Cd, PySem.PyData.showable (toD c.tree) = true
  | .leaf x => rfl
  | .node a b => by
    have ha := showable_tree a
    have hb := showable_tree b
    simp only [Cd.tree, toD, toDs, PySem.PyData.showable, PySem.PyData.showableAll, ha, hb, Bool.and_self]
theorem repr_tree (c : Cd) (g : c.good) (hm : c.many ≤ 100) : doRepr c.tree = some (.str (shown c.tree)) := by
  obtain ⟨c1, c2⟩ := shown_tree c g
  have hl : (shown c.tree).length ≤ line := by
    have : line = 16777216 := rfl
    omega
  have hd : Z.dep c.tree ≤ maxDep := by
    have := c.dep_many
    simp only [c.depT, maxDep]
    omega
  have hs := showable_tree c
  have he := c.eqOk
  have sq : isSq c.tree = true := by cases c <;> rfl
  unfold doRepr
  simp [sq, he, hd, hs, c1, hl]
/-! ### what is shown of codes and steps -/
theorem shown_non : shown .non = [78, 111, 110, 101] := by decide +kernel
theorem repr_non : doRepr .non = some (.str [78, 111, 110, 101]) := by
  have e : doRepr .non = some (.str (shown .non)) := by
    unfold doRepr
    simp only [shown_non]
    rw [if_pos (by decide +kernel)]
  rw [e, shown_non]
theorem shown_int : ∀ k < 400, okS (shown (.int ((k : Nat) : Int))) = true ∧ (shown (.int ((k : Nat) : Int))).length ≤ 10 ∧ PySem.PyData.showable (toD (.int ((k : Nat) : Int))) = true := by decide +kernel
theorem repr_opt {o : Option Cd} (h : ∀ c, o = some c → c.good ∧ c.many ≤ 100) : ∃ s, doRepr (opt o) = some (.str s) := by
  cases o with
  | none => exact ⟨_, repr_non⟩
  | some c => exact ⟨_, repr_tree c (h c rfl).1 (h c rfl).2⟩
theorem opt_eqOk (o : Option Cd) : Z.eqOk (opt o) = true := by
  cases o with
  | none => rfl
  | some c => exact c.eqOk
theorem opt_dep {o : Option Cd} (h : ∀ c, o = some c → c.many ≤ 400) : Z.dep (opt o) ≤ maxDep := by
  cases o with
  | none => simp [opt, Z.dep]
  | some c =>
    have := h c rfl
    have := c.dep_many
    simp only [opt, c.depT, maxDep]
    omega
def endP (c : Cd) (k : Nat) : PV := .tup [c.tree, .int (k : Nat)]
theorem endP_eq (c : Cd) (k : Nat) : Z.eqOk (endP c k) = true := by simp [endP, Z.eqOk, Z.eqOks, c.eqOk]
theorem endP_dep {c : Cd} (h : c.many ≤ 400) (k : Nat) : Z.dep (endP c k) ≤ maxDep := by
  have := c.dep_many
  simp only [endP, Z.dep, Z.deps, c.depT, maxDep]
  omega
theorem repr_end {c : Cd} (g : c.good) (hm : c.many ≤ 100) {k : Nat} (hk : k < 400) : doRepr (endP c k) = some (.str (shown (endP c k))) := by
  obtain ⟨c1, c2⟩ := shown_tree c g
  obtain ⟨i1, i2, i3⟩ := shown_int k hk
  have hl : (shown (endP c k)).length ≤ line := by
    have : line = 16777216 := rfl
    simp only [endP, shown_two, List.length_cons, List.length_append, List.length_nil]
    omega
  have ho : okS (shown (endP c k)) = true := by
    simp only [okS, List.all_eq_true, decide_eq_true_eq] at c1 i1 ⊢
    intro y hy
    simp only [endP, shown_two] at hy
    simp at hy
    rcases hy with z | z | z | z | z | z
    · omega
    · exact c1 y z
    · omega
    · omega
    · exact i1 y z
    · omega
  have hd := endP_dep (c := c) (by omega) k
  have hs : PySem.PyData.showable (toD (endP c k)) = true := by
    have h1 := showable_tree c
    have h2 := i3
    simp only [endP, toD, toDs, PySem.PyData.showable, PySem.PyData.showableAll, h1, Bool.true_and, Bool.and_true] at h2 ⊢
    exact h2
  have he := endP_eq c k
  have sq : isSq (endP c k) = true := rfl
  unfold doRepr
  simp [sq, he, hd, hs, ho, hl]
/-! ### code_step, _law_told, _law_ran -/
section
variable {S : Sem} {φ : Slots} {st : Store} {i : Nat}
theorem isn_tf {c : Cd} (h : φ[i]? = some (some (.pv c.tree))) : evT S (.isn false (.var i)) φ st = some (.ok false st) := by
  cases c <;> simp [h, Cd.tree]
end
section
variable {n : Nat} {c : Cd} (g : c.good) (h : c.many ≤ 100) (hn : 103 ≤ n)
include g h hn
theorem cstep_ok {d : Cd} (e : step c = some d) (st : Store) : (Pr.sem (n + 1)).call 24 [.pv c.tree] st = some (.ok (.pv d.tree) st) := by
  refine call1 (st1 := []) rfl ?_
  rw [cal_eq Pr n 24 m24 _ _ rfl rfl]
  have q := son_call (n := n) g (by omega) (by omega) []
  rw [e] at q
  have it := isn_tf (S := Pr.sem n) (st := []) (c := d) (i := 1) (φ := [some (.pv c.tree), some (.pv d.tree)]) rfl
  simp [m24, q, opt, -evT_isn, it]
theorem cstep_no (e : step c = none) (st : Store) : (Pr.sem (n + 1)).call 24 [.pv c.tree] st = some (.ex ⟨1, []⟩ st) := by
  refine callx1 (st1 := []) rfl ?_
  rw [cal_eq Pr n 24 m24 _ _ rfl rfl]
  have q := son_call (n := n) g (by omega) (by omega) []
  rw [e] at q
  have xi : (Pr.sem n).xin 1 = some (0, []) := rfl
  simp [m24, q, opt, xi, extP]
theorem ltold_of (st : Store) : (Pr.sem (n + 2)).call 46 [.pv c.tree] st = some (.ok (.pv (opt (step c))) st) := by
  refine call1 (st1 := []) rfl ?_
  rw [cal_eq Pr (n + 1) 46 m46 _ _ rfl rfl]
  have rp : doBI .repr [c.tree] = some (.str (shown c.tree)) := repr_tree c g h
  have ns := str2 (shown c.tree)
  generalize shown c.tree = X at *
  cases e : step c with
  | some d =>
    have q := cstep_ok g h hn e []
    simp [m46, rp, q, ns, opt]
  | none =>
    have q := cstep_no g h hn e []
    have s0 : (Pr.sem (n + 1)).sub 1 1 = true := rfl
    have s1 : (Pr.sem (n + 1)).sub 1 0 = true := rfl
    have s2 : (Pr.sem (n + 1)).sub 1 2 = false := rfl
    have xi : (Pr.sem (n + 1)).xin 1 = some (0, []) := rfl
    simp [m46, rp, q, ns, opt, s0, s1, s2, xi, unslot]
end
def manyP (most : Nat) : PV := .tup [.str [109, 97, 110, 121], .int (most : Nat)]
section
variable {n : Nat} {c : Cd} {M : Nat} (g : c.good) (h : c.many ≤ 200) (hn : 202 ≤ n)
include g h hn
theorem lran_in (hM : nst c ≤ M) (st : Store) : (Pr.sem (n + 2)).call 47 [.pv c.tree, .pv (.int (M : Nat))] st = some (.ok (.pv (endP (fin c) (nst c))) st) := by
  refine call2 (st1 := []) rfl ?_
  rw [cal_eq Pr (n + 1) 47 m47 _ _ rfl rfl]
  have q := run_in g h hn hM []
  unfold endP
  simp [m47, q]
theorem lran_out (hM : M < nst c) (st : Store) : (Pr.sem (n + 2)).call 47 [.pv c.tree, .pv (.int (M : Nat))] st = some (.ok (.pv (manyP M)) st) := by
  refine call2 (st1 := []) rfl ?_
  rw [cal_eq Pr (n + 1) 47 m47 _ _ rfl rfl]
  have q := run_out g h hn hM []
  have s0 : (Pr.sem (n + 1)).sub 3 3 = true := rfl
  have s1 : (Pr.sem (n + 1)).sub 3 0 = true := rfl
  have s2 : (Pr.sem (n + 1)).sub 3 1 = false := rfl
  have xi : (Pr.sem (n + 1)).xin 3 = some (1, [(0, 0)]) := rfl
  unfold manyP
  simp [m47, q, s0, s1, s2, xi, unslot, look]
end
/-! ### the codes on the way -/
theorem runs_at : ∀ (n : Nat) (c : Cd), c.many ≤ n → c.good → ∀ k < (runs c).length, ∃ d, (runs c)[k]? = some d ∧ d.good ∧ d.many + k = c.many ∧ step d = (runs c)[k + 1]? ∧ Ps (cD c) (cD d)
  | 0, c, h, _, _, _ => by have := many_pos c; omega
  | n + 1, c, h, g, k, hk => by
    cases e : step c with
    | none =>
      rw [runs_none e] at hk ⊢
      have : k = 0 := by simp at hk; exact hk
      subst this
      exact ⟨c, rfl, g, rfl, by rw [e]; rfl, .refl _⟩
    | some d =>
      obtain ⟨q1, q2⟩ := step_many e g
      rw [runs_some g e] at hk ⊢
      cases k with
      | zero =>
        refine ⟨c, rfl, g, rfl, ?_, .refl _⟩
        rw [e]
        obtain ⟨d', h1, _, h3, _⟩ := runs_at n d (by omega) q2 0 (runs_pos d)
        have : (runs d)[0]? = some d := by
          cases e' : step d with
          | none => rw [runs_none e']; rfl
          | some w => rw [runs_some q2 e']; rfl
        simp [this]
      | succ k =>
        simp only [List.length_cons] at hk
        obtain ⟨d', h1, h2, h3, h4, h5⟩ := runs_at n d (by omega) q2 k (by omega)
        refine ⟨d', by simpa using h1, h2, by omega, by simpa using h4, (step_ps c.many c d (Nat.le_refl _) g e).trans h5⟩
theorem runs_last : ∀ (n : Nat) (c : Cd), c.many ≤ n → c.good → ∃ L, runs c = L ++ [fin c] ∧ L.length = nst c
  | 0, c, h, _ => by have := many_pos c; omega
  | n + 1, c, h, g => by
    cases e : step c with
    | none =>
      rw [runs_none e, fin_none e, nst_none e]
      exact ⟨[], rfl, rfl⟩
    | some d =>
      obtain ⟨q1, q2⟩ := step_many e g
      obtain ⟨L, h1, h2⟩ := runs_last n d (by omega) q2
      refine ⟨c :: L, ?_, ?_⟩
      · rw [runs_some g e, h1, fin_step g e]; rfl
      · rw [nst_some g e, List.length_cons, h2]
/-- one meaning -/
theorem one_meaning {c d : Cd} {u v : Tm} {w w' : Bool} {s s' : Nat → Sg} {M M' : Nat} (i1 : ∀ i < M, ∀ j < M, s i = s j → i = j) (i2 : ∀ i < M', ∀ j < M', s' i = s' j → i = j) (h1 : 3 * c.many ≤ M) (h2 : 3 * d.many ≤ M') (p : Ps (cD c) (cD d)) (r1 : Rds (tT w s c 0).1 u) (n1 : nrT u) (r2 : Rds (tT w' s' d 0).1 v) (n2 : nrT v) : plain v = plain u := by
  have A := tT_ok (w := w) i1 c 0 (by omega)
  have B := tT_ok (w := w') i2 d 0 (by omega)
  exact (ends_plain A.lc B.lc (by rw [A.db, B.db]; exact p) r1 r2 n1 n2).symm
end Z51
end

section
namespace Z51
open Z
theorem nf_many' : ∀ (n : Nat) (c : Cd), c.good → (nf n c).many ≤ c.many ∧ (nf n c).good
  | 0, c, g => ⟨Nat.le_refl _, g⟩
  | n + 1, c, g => by
    unfold nf
    cases e : step c with
    | none => exact ⟨Nat.le_refl _, g⟩
    | some d =>
      obtain ⟨q1, q2⟩ := step_many e g
      obtain ⟨i1, i2⟩ := nf_many' n d q2
      simp only
      exact ⟨by omega, i2⟩
/-! ### _law_right -/
abbrev rsl (c : Cd) (tl : List (Option LV)) : Slots := some (.ref 0) :: some (.pv c.tree) :: some (.pv (.lst (trs (runs c)))) :: tl
section
variable {n : Nat} {c : Cd} (g : c.good) (hc : c.many ≤ 40)
include g hc
theorem rt_turn {st : Store} (k : Nat) (hk : k < (runs c).length) (a3 a4 a5 a6 a7 : Option LV) : ∃ b5 b7, forStep (Pr.sem (n + 250)) (.nm 3) [.asg (.nm 7) (.lit (.non)), .iff (.cmp .lt (.bin .add (.var 3) (.lit (.int 1))) (.bi .len [.var 2])) [.asg (.nm 7) (.idx (.var 2) (.bin .add (.var 3) (.lit (.int 1))))] [], .asg (.nm 5) (.call 46 [.idx (.var 2) (.var 3)]), .iff (.boolop false [.cmp .ne (.var 5) (.var 7), .cmp .ne (.bi .repr [.var 5]) (.bi .repr [.var 7]), .cmp .ne (.bi .len [.call 38 [.idx (.var 2) (.var 3)]]) (.bin .sub (.bi .len [.call 38 [.var 1]]) (.var 3))]) [.ret (.lit (.bl false))] []] (.int (k : Nat)) (rsl c [a3, a4, a5, a6, a7]) st = some (.nx (rsl c [some (.pv (.int (k : Nat))), a4, b5, a6, b7]) st) := by
  obtain ⟨d, h1, h2, h3, h4, h5⟩ := runs_at c.many c (Nat.le_refl _) g k hk
  have ix : atI (trs (runs c)) (k : Int) = some d.tree := by
    rw [atI_nat (by rw [List.length_map]; exact hk), List.getElem?_map, h1]; rfl
  have vl : (trs (runs c)).length = (runs c).length := List.length_map ..
  have hline : line = 16777216 := rfl
  have nl := nst_lt c.many c (Nat.le_refl _) g
  have lt := ltold_of (n := n + 248) h2 (by omega) (by omega) st
  have jd := call1 (P := Pr) (f := 38) (st := st) rfl (joiners_of d (n + 250) (by have := d.dep_many; omega) (by omega))
  have jc := call1 (P := Pr) (f := 38) (st := st) rfl (joiners_of c (n + 250) (by have := c.dep_many; omega) (by omega))
  have jl := jo_len d
  have jl' := jo_len c
  have so : ∀ e, step d = some e → e.good ∧ e.many ≤ 100 := fun e he => by
    have := step_many he h2
    exact ⟨this.2, by omega⟩
  obtain ⟨s, rp⟩ := repr_opt so
  have rp' : doBI .repr [opt (step d)] = some (.str s) := rp
  have no := ne_self (opt_eqOk (step d)) (opt_dep fun e he => by have := so e he; omega)
  have ns := str2 s
  have em : (d.jo.length : Int) = (c.jo.length : Int) - (k : Int) := by rw [jl, jl']; omega
  refine ⟨some (.pv (opt (step d))), some (.pv (opt (step d))), ?_⟩
  have hs : forStep (Pr.sem (n + 250)) (.nm 3) [.asg (.nm 7) (.lit (.non)), .iff (.cmp .lt (.bin .add (.var 3) (.lit (.int 1))) (.bi .len [.var 2])) [.asg (.nm 7) (.idx (.var 2) (.bin .add (.var 3) (.lit (.int 1))))] [], .asg (.nm 5) (.call 46 [.idx (.var 2) (.var 3)]), .iff (.boolop false [.cmp .ne (.var 5) (.var 7), .cmp .ne (.bi .repr [.var 5]) (.bi .repr [.var 7]), .cmp .ne (.bi .len [.call 38 [.idx (.var 2) (.var 3)]]) (.bin .sub (.bi .len [.call 38 [.var 1]]) (.var 3))]) [.ret (.lit (.bl false))] []] (.int (k : Nat)) (rsl c [a3, a4, a5, a6, a7]) st = exSs (Pr.sem (n + 250)) [.asg (.nm 7) (.lit (.non)), .iff (.cmp .lt (.bin .add (.var 3) (.lit (.int 1))) (.bi .len [.var 2])) [.asg (.nm 7) (.idx (.var 2) (.bin .add (.var 3) (.lit (.int 1))))] [], .asg (.nm 5) (.call 46 [.idx (.var 2) (.var 3)]), .iff (.boolop false [.cmp .ne (.var 5) (.var 7), .cmp .ne (.bi .repr [.var 5]) (.bi .repr [.var 7]), .cmp .ne (.bi .len [.call 38 [.idx (.var 2) (.var 3)]]) (.bin .sub (.bi .len [.call 38 [.var 1]]) (.var 3))]) [.ret (.lit (.bl false))] []] (rsl c [some (.pv (.int (k : Nat))), a4, a5, a6, a7]) st := rfl
  rw [hs]
  by_cases hk1 : k + 1 < (runs c).length
  · have e : opt (step d) = (runs c)[k + 1].tree := by rw [h4, List.getElem?_eq_getElem hk1]; rfl
    have ix1 : atI (trs (runs c)) ((k : Int) + 1) = some (opt (step d)) := by
      have kk : (k : Int) + 1 = ((k + 1 : Nat) : Int) := by push_cast; rfl
      rw [kk, atI_nat (by rw [List.length_map]; exact hk1), List.getElem?_map, List.getElem?_eq_getElem hk1, e]; rfl
    have hk1' : (k : Int) + 1 < ((runs c).length : Int) := by omega
    unfold rsl
    generalize trs (runs c) = X at *
    generalize opt (step d) = O at *
    generalize d.jo = JD at *
    generalize c.jo = JC at *
    generalize d.tree = T at *
    generalize c.tree = C at *
    simp [vl, hk1', ix, ix1, lt, jd, jc, rp', no, ns, em]
  · have e : opt (step d) = .non := by rw [h4, List.getElem?_eq_none (by omega)]; rfl
    have hk1' : ¬ (k : Int) + 1 < ((runs c).length : Int) := by omega
    rw [e] at lt rp' no ⊢
    unfold rsl
    generalize trs (runs c) = X at *
    generalize d.jo = JD at *
    generalize c.jo = JC at *
    generalize d.tree = T at *
    generalize c.tree = C at *
    simp [vl, hk1', ix, lt, jd, jc, rp', no, ns, em]
theorem rt_loop {st : Store} (a3 a4 a5 a6 a7 : Option LV) : ∃ b3 b5 b7, exS (Pr.sem (n + 250)) (.for_ (.nm 3) .range [.bi .len [.var 2]] [.asg (.nm 7) (.lit (.non)), .iff (.cmp .lt (.bin .add (.var 3) (.lit (.int 1))) (.bi .len [.var 2])) [.asg (.nm 7) (.idx (.var 2) (.bin .add (.var 3) (.lit (.int 1))))] [], .asg (.nm 5) (.call 46 [.idx (.var 2) (.var 3)]), .iff (.boolop false [.cmp .ne (.var 5) (.var 7), .cmp .ne (.bi .repr [.var 5]) (.bi .repr [.var 7]), .cmp .ne (.bi .len [.call 38 [.idx (.var 2) (.var 3)]]) (.bin .sub (.bi .len [.call 38 [.var 1]]) (.var 3))]) [.ret (.lit (.bl false))] []]) (rsl c [a3, a4, a5, a6, a7]) st = some (.nx (rsl c [b3, a4, b5, a6, b7]) st) := by
  let I : Nat → Slots → Store → Prop := fun _ φ st1 => st1 = st ∧ ∃ b3 b5 b7, φ = rsl c [b3, a4, b5, a6, b7]
  obtain ⟨φ', st2, e2, hst, b3, b5, b7, hφ⟩ := forLoop_inv (step := forStep (Pr.sem (n + 250)) (.nm 3) [.asg (.nm 7) (.lit (.non)), .iff (.cmp .lt (.bin .add (.var 3) (.lit (.int 1))) (.bi .len [.var 2])) [.asg (.nm 7) (.idx (.var 2) (.bin .add (.var 3) (.lit (.int 1))))] [], .asg (.nm 5) (.call 46 [.idx (.var 2) (.var 3)]), .iff (.boolop false [.cmp .ne (.var 5) (.var 7), .cmp .ne (.bi .repr [.var 5]) (.bi .repr [.var 7]), .cmp .ne (.bi .len [.call 38 [.idx (.var 2) (.var 3)]]) (.bin .sub (.bi .len [.call 38 [.var 1]]) (.var 3))]) [.ret (.lit (.bl false))] []]) I ((upto 0 (runs c).length).map .int) 0 (rsl c [a3, a4, a5, a6, a7]) st ⟨rfl, _, _, _, rfl⟩ fun i x φ st1 hx hi => by
    obtain ⟨hst, b3, b5, b7, hφ⟩ := hi
    subst hφ
    subst hst
    have hi : i < (runs c).length := by
      have := (List.getElem?_eq_some_iff.mp hx).1
      rw [List.length_map, upto_length] at this
      exact this
    have ex : x = .int (i : Nat) := by
      rw [List.getElem?_map, upto_get 0 _ i hi] at hx
      simp at hx
      exact hx.symm
    subst ex
    obtain ⟨b5', b7', e⟩ := rt_turn (n := n) g hc (st := st1) i hi b3 a4 b5 a6 b7
    exact ⟨_, _, e, rfl, _, _, _, rfl⟩
  subst hφ
  subst hst
  have nl := nst_lt c.many c (Nat.le_refl _) g
  have hr : (runs c).length ≤ 100 := by unfold nst at nl; omega
  have hline : line = 16777216 := rfl
  have fv := forV_upto (n := (runs c).length) (by omega) (forStep (Pr.sem (n + 250)) (.nm 3) [.asg (.nm 7) (.lit (.non)), .iff (.cmp .lt (.bin .add (.var 3) (.lit (.int 1))) (.bi .len [.var 2])) [.asg (.nm 7) (.idx (.var 2) (.bin .add (.var 3) (.lit (.int 1))))] [], .asg (.nm 5) (.call 46 [.idx (.var 2) (.var 3)]), .iff (.boolop false [.cmp .ne (.var 5) (.var 7), .cmp .ne (.bi .repr [.var 5]) (.bi .repr [.var 7]), .cmp .ne (.bi .len [.call 38 [.idx (.var 2) (.var 3)]]) (.bin .sub (.bi .len [.call 38 [.var 1]]) (.var 3))]) [.ret (.lit (.bl false))] []]) (rsl c [a3, a4, a5, a6, a7]) st2
  rw [e2] at fv
  refine ⟨b3, b5, b7, ?_⟩
  have ev : evEs (Pr.sem (n + 250)) [.bi .len [.var 2]] (rsl c [a3, a4, a5, a6, a7]) st2 = some (.ok [.pv (.int ((runs c).length : Nat))] st2) := by
    have vl : (trs (runs c)).length = (runs c).length := List.length_map ..
    unfold rsl
    generalize trs (runs c) = X at *
    simp [vl]
  rw [exS_for, ev, Rs.bf_ok, fv]
/-- what is run -/
theorem rt_ran {st : Store} (a3 a4 a5 a6 a7 : Option LV) : ∃ a4' a5', exSs (Pr.sem (n + 250)) [.asg (.nm 4) (.bin .sub (.bi .len [.var 2]) (.lit (.int 1))), .asg (.nm 5) (.call 47 [.var 1, .lit (.int 500)]), .iff (.boolop false [.not (.val (.isi .tuple (.var 5))), .cmp .ne (.var 5) (.tup [.idx (.var 2) (.neg (.lit (.int 1))), .var 4]), .cmp .ne (.bi .repr [.var 5]) (.bi .repr [.tup [.idx (.var 2) (.neg (.lit (.int 1))), .var 4]])]) [.ret (.lit (.bl false))] [], .iff (.boolop true [.cmp .gt (.var 4) (.lit (.int 0)), .boolop false [.cmp .ne (.call 47 [.var 1, .var 4]) (.tup [.idx (.var 2) (.neg (.lit (.int 1))), .var 4]), .cmp .ne (.call 47 [.idx (.var 2) (.lit (.int 0)), .bi .max [.lit (.int 1), .bin .sub (.var 4) (.lit (.int 1))]]) (.idx (.lst false [.tup [.lit (.str [109, 97, 110, 121]), .bin .sub (.var 4) (.lit (.int 1))], .tup [.idx (.var 2) (.neg (.lit (.int 1))), .lit (.int 1)]]) (.bi .int [.cmp .eq (.var 4) (.lit (.int 1))]))]]) [.ret (.lit (.bl false))] []] (rsl c [a3, a4, a5, a6, a7]) st = some (.nx (rsl c [a3, a4', a5', a6, a7]) st) := by
  obtain ⟨L, hL, hn⟩ := runs_last c.many c (Nat.le_refl _) g
  have nl := nst_lt c.many c (Nat.le_refl _) g
  obtain ⟨f1, f2⟩ := nf_many' c.many c g
  have vl : (trs (runs c)).length = nst c + 1 := by rw [List.length_map, hL, List.length_append, hn]; rfl
  have la : atI (trs (runs c)) (-1) = some (fin c).tree := by
    rw [hL]
    simp only [trs, List.map_append, List.map_cons, List.map_nil]
    exact atI_last _ _
  have r5 := lran_in (n := n + 248) g (by omega) (by omega) (M := 500) (by omega) st
  have hfin : (fin c).many ≤ 100 := by show (nf c.many c).many ≤ 100; omega
  have ne := ne_self (endP_eq (fin c) (nst c)) (endP_dep (c := fin c) (by omega) (nst c))
  have rp : doBI .repr [endP (fin c) (nst c)] = some (.str (shown (endP (fin c) (nst c)))) := repr_end (c := fin c) f2 hfin (by omega)
  have ns := str2 (shown (endP (fin c) (nst c)))
  have ist : isTy .tuple (endP (fin c) (nst c)) = true := rfl
  generalize shown (endP (fin c) (nst c)) = W at *
  refine ⟨some (.pv (.int (nst c : Nat))), some (.pv (endP (fin c) (nst c))), ?_⟩
  rw [show ((500 : Nat) : Int) = 500 from rfl] at r5
  by_cases h0 : nst c = 0
  · clear hL hn nl f1
    generalize nst c = K at *
    subst h0
    unfold rsl
    unfold endP at *
    generalize trs (runs c) = X at *
    generalize (fin c).tree = F at *
    generalize c.tree = C at *
    simp at r5 ne rp
    simp [vl, la, r5, ne, rp, ns, isTy]
  · have r1 := lran_in (n := n + 248) g (by omega) (by omega) (M := nst c) (Nat.le_refl _) st
    have i0 : atI (trs (runs c)) 0 = some c.tree := by
      obtain ⟨d, h1, _, _, _, _⟩ := runs_at c.many c (Nat.le_refl _) g 0 (runs_pos c)
      have : (runs c)[0]? = some c := by
        cases e' : step c with
        | none => rw [runs_none e']; rfl
        | some w => rw [runs_some g e']; rfl
      have h := atI_nat (xs := trs (runs c)) (k := 0) (by rw [vl]; omega)
      rw [List.getElem?_map, this] at h
      exact h
    have hp : 0 < nst c := by omega
    by_cases h1 : nst c = 1
    · have r2 := lran_in (n := n + 248) g (by omega) (by omega) (M := 1) (by omega) st
      have mx : doBI .max [.int 1, .int 0] = some (.int 1) := rfl
      have bi1 : doBI .int [.bl true] = some (.int 1) := rfl
      clear hL hn nl f1 h0 hp
      generalize nst c = K at *
      subst h1
      unfold rsl
      unfold endP at *
      generalize trs (runs c) = X at *
      generalize (fin c).tree = F at *
      generalize c.tree = C at *
      simp at r5 r1 r2 ne rp
      simp [vl, la, i0, r5, r1, ne, rp, ns, isTy, mx, bi1]
    · have r2 := lran_out (n := n + 248) g (by omega) (by omega) (M := nst c - 1) (by omega) st
      have mx : doBI .max [.int 1, .int ((nst c : Int) - 1)] = some (.int ((nst c : Int) - 1)) := by
        show some (PV.int (max _ _)) = _
        congr 2
        omega
      have h1i : ¬ ((nst c : Int) = 1) := by omega
      have bi0 : doBI .int [.bl false] = some (.int 0) := rfl
      have nm : doCmp .ne (manyP (nst c - 1)) (manyP (nst c - 1)) = some false := ne_self (by rfl) (by simp [manyP, Z.dep, Z.deps, maxDep])
      have ek : ((nst c - 1 : Nat) : Int) = (nst c : Int) - 1 := by omega
      unfold manyP at r2 nm
      rw [ek] at r2 nm
      clear ek
      clear hL hn nl f1
      unfold rsl
      unfold endP at *
      generalize nst c = K at *
      generalize trs (runs c) = X at *
      generalize (fin c).tree = F at *
      generalize c.tree = C at *
      simp [vl, la, i0, r5, r1, r2, ne, rp, ns, isTy, mx, bi0, nm, hp, h1, h1i]
end
/-! a code that is right -/
theorem plain_dep (a : Tm) : (plain a).dep = a.dep := nmd_dep a id 0
theorem rt_call {n : Nat} {c : Cd} (g : c.good) (hc : c.many ≤ 40) {st : Store} (h : HasF st) : ∃ st', (Pr.sem (n + 260)).call 48 [.ref 0, .pv c.tree] st = some (.ok (.pv (.bl true)) st') ∧ Lk st st' := by
  suffices H : ∃ st', Pr.cal (n + 260) 48 [.ref 0, .pv c.tree] st = some (.ok (.pv (.bl true)) st') ∧ Lk st st' by
    obtain ⟨st', e, f⟩ := H
    exact ⟨st', call_lk e f, f⟩
  rw [cal_eq Pr (n + 259) 48 m48 _ _ rfl rfl]
  have nl := nst_lt c.many c (Nat.le_refl _) g
  have hr : (runs c).length = nst c + 1 := by have := runs_pos c; unfold nst; omega
  have lr := lrun (n := n + 258) g (by omega) (by omega) st
  obtain ⟨b3, b5, b7, e1⟩ := rt_loop (n := n + 9) g hc (st := st) none none none none none
  obtain ⟨a4', a5', e2⟩ := rt_ran (n := n + 9) g hc (st := st) b3 none b5 none b7
  obtain ⟨k, st1, e3, hk, f1⟩ := lk_draw (n := n + 258) hdraw (Lk.refl h) (m := ((runs c).length : Nat)) (by omega) (by omega)
  obtain ⟨d, h1, h2, h3, h4, h5⟩ := runs_at c.many c (Nat.le_refl _) g k (by omega)
  obtain ⟨z, y1, y2, y3, y4, y5⟩ := runs_at c.many c (Nat.le_refl _) g (nst c) (by omega)
  obtain ⟨u0, m0, r0, n0⟩ := meaning_of g (by omega) (n := n + 259) (by omega) st1
  obtain ⟨u1, m1, r1, n1⟩ := term_of h2 (by omega) (n := n + 259) (by omega) st1
  obtain ⟨u2, m2, r2, n2⟩ := meaning_of h2 (by omega) (n := n + 259) (by omega) st1
  obtain ⟨u3, m3, r3, n3⟩ := term_of y2 (by omega) (n := n + 259) (by omega) st1
  rw [one_meaning (M := 676) (M' := 456976) nml_ok nm4_ok (by omega) (by omega) h5 r0 n0 r1 n1] at m1
  rw [one_meaning (M := 676) (M' := 676) nml_ok nml_ok (by omega) (by omega) h5 r0 n0 r2 n2] at m2
  rw [one_meaning (M := 676) (M' := 456976) nml_ok nm4_ok (by omega) (by omega) y5 r0 n0 r3 n3] at m3
  have T := tT_ok (w := false) (s := nml) (M := 676) nml_ok c 0 (by omega)
  have fl := T.fl
  have LL := T.lc.rds r0
  have dl := LL.1.dep_le
  have ll := LL.2.2
  have pd : Z.dep (plain u0).tree ≤ maxDep := by
    have := (plain u0).depT
    have : (plain u0).dep = u0.dep := plain_dep u0
    have : maxDep = 500 := rfl
    omega
  have eq := eq_self (plain u0).eqOk pd
  have vl : (trs (runs c)).length = (runs c).length := List.length_map ..
  have ix : atI (trs (runs c)) (k : Int) = some d.tree := by
    rw [atI_nat (by rw [vl]; omega), List.getElem?_map, h1]; rfl
  have la : atI (trs (runs c)) (-1) = some z.tree := by
    obtain ⟨L, hL, hn⟩ := runs_last c.many c (Nat.le_refl _) g
    rw [hL, ← hn] at y1
    simp at y1
    rw [hL, ← y1]
    simp only [trs, List.map_append, List.map_cons, List.map_nil]
    exact atI_last _ _
  refine ⟨st1, ?_, f1⟩
  have bd : m48.body = ((.asg (.nm 2) (.call 45 [.var 1])) :: (.for_ (.nm 3) .range [.bi .len [.var 2]] [.asg (.nm 7) (.lit (.non)), .iff (.cmp .lt (.bin .add (.var 3) (.lit (.int 1))) (.bi .len [.var 2])) [.asg (.nm 7) (.idx (.var 2) (.bin .add (.var 3) (.lit (.int 1))))] [], .asg (.nm 5) (.call 46 [.idx (.var 2) (.var 3)]), .iff (.boolop false [.cmp .ne (.var 5) (.var 7), .cmp .ne (.bi .repr [.var 5]) (.bi .repr [.var 7]), .cmp .ne (.bi .len [.call 38 [.idx (.var 2) (.var 3)]]) (.bin .sub (.bi .len [.call 38 [.var 1]]) (.var 3))]) [.ret (.lit (.bl false))] []]) :: ([.asg (.nm 4) (.bin .sub (.bi .len [.var 2]) (.lit (.int 1))), .asg (.nm 5) (.call 47 [.var 1, .lit (.int 500)]), .iff (.boolop false [.not (.val (.isi .tuple (.var 5))), .cmp .ne (.var 5) (.tup [.idx (.var 2) (.neg (.lit (.int 1))), .var 4]), .cmp .ne (.bi .repr [.var 5]) (.bi .repr [.tup [.idx (.var 2) (.neg (.lit (.int 1))), .var 4]])]) [.ret (.lit (.bl false))] [], .iff (.boolop true [.cmp .gt (.var 4) (.lit (.int 0)), .boolop false [.cmp .ne (.call 47 [.var 1, .var 4]) (.tup [.idx (.var 2) (.neg (.lit (.int 1))), .var 4]), .cmp .ne (.call 47 [.idx (.var 2) (.lit (.int 0)), .bi .max [.lit (.int 1), .bin .sub (.var 4) (.lit (.int 1))]]) (.idx (.lst false [.tup [.lit (.str [109, 97, 110, 121]), .bin .sub (.var 4) (.lit (.int 1))], .tup [.idx (.var 2) (.neg (.lit (.int 1))), .lit (.int 1)]]) (.bi .int [.cmp .eq (.var 4) (.lit (.int 1))]))]]) [.ret (.lit (.bl false))] []] ++ [.asg (.nm 6) (.call 27 [.var 0, .bi .len [.var 2]]), .asg (.nm 7) (.call 40 [.var 1]), .ret (.boolop true [.cmp .eq (.call 19 [.idx (.var 2) (.var 6)]) (.var 7), .cmp .eq (.call 40 [.idx (.var 2) (.var 6)]) (.var 7), .cmp .eq (.call 19 [.idx (.var 2) (.neg (.lit (.int 1)))]) (.var 7)])])) := rfl
  have s0 : exS (Pr.sem (n + 259)) (.asg (.nm 2) (.call 45 [.var 1])) ([.ref 0, .pv c.tree].map some ++ List.replicate (m48.nn - m48.ar) none) st = some (.nx (rsl c [none, none, none, none, none]) st) := by
    unfold rsl
    generalize trs (runs c) = X at *
    generalize c.tree = C at *
    simp [m48, lr]
  rw [bd, exSs_cons, s0, seqS_nx, exSs_cons, e1, seqS_nx, exSs_app, e2, seqS_nx]
  unfold rsl
  generalize trs (runs c) = X at *
  generalize (plain u0).tree = U at *
  generalize c.tree = C at *
  generalize d.tree = DT at *
  generalize z.tree = ZT at *
  simp [vl, e3, m0, m1, m2, m3, ix, la, eq]
end Z51
end

section
namespace Z51
open Z
/-! ### the law -/
abbrev lawsl (ns : List Int) (a2 a3 a4 : Option LV) : Slots := [some (.pv (.scr ns)), some (.ref 0), a2, a3, a4]
theorem lw_turn {ns : List Int} {st : Store} (h : HasF st) (x : PV) (a2 a3 a4 : Option LV) : ∃ b3 b4 st', forStep (Pr.sem 269) (.nm 2) [.iff (.not (.val (.call 48 [.var 1, .call 41 [.var 1, .lit (.int 12)]]))) [.ret (.lit (.bl false))] [], .asg (.nm 3) (.call 28 [.var 1, .bin .add (.lit (.int 1)) (.call 27 [.var 1, .lit (.int 5)])]), .asg (.nm 4) (.call 15 [.var 3]), .iff (.boolop false [.cmp .ne (.var 4) (.call 35 [.var 3]), .not (.val (.call 48 [.var 1, .var 4]))]) [.ret (.lit (.bl false))] []] x (lawsl ns a2 a3 a4) st = some (.nx (lawsl ns (some (.pv x)) b3 b4) st') ∧ HasF st' := by
  obtain ⟨c, st1, e1, L1, g1, h1⟩ := some_code (n := 267) (M := 12) (by decide) (by decide) h
  obtain ⟨st2, e2, L2⟩ := rt_call (n := 9) g1 (by omega) L1.1
  obtain ⟨j, st3, e3, hj, L3⟩ := lk_draw (n := 268) hdraw (Lk.refl L2.1) (m := 5) (by decide) (by decide)
  obtain ⟨t, st4, e4, L4, T⟩ := term_drawn (n := 267) (m := 1 + j) (by omega) (by omega) L3.1
  obtain ⟨C, cg, ct, cm⟩ := T.code (by omega)
  have hfu : t.funs.length ≤ 5 := by
    have := T.vs
    have := T.lc.eq
    omega
  have dl := T.lc.dep_le
  have cd := C.cd
  have m9 : Mx 9 = 173 := rfl
  have cd' : (code t).dep ≤ 300 := by
    have p1 := C.phi
    have p2 := lv_phi (code t)
    have p3 := dep_lv (code t)
    have hv : t.vars = 1 + j := by rw [← names_vars]; exact T.vs
    have := Mx_le t.vars (by omega)
    omega
  have c1 := call1 (P := Pr) (f := 15) (st := st4) rfl (cot_of t 269 (by omega))
  have c2 := call1 (P := Pr) (f := 35) (st := st4) rfl (lcode_of t 269 (by omega))
  have hM : ∀ i, i < 5 → Mx (1 + i) ≤ 39 := by decide
  obtain ⟨st5, e5, L5⟩ := rt_call (n := 9) cg (by have := hM j (by omega); omega) L4.1
  rw [ct] at e5
  have ne : doCmp .ne (code t).tree (code t).tree = some false := by
    rw [← ct]
    exact ne_self (Cd.eqOk _) (by
      rw [Cd.depT]
      have := (code t).cd.dep_many
      have : maxDep = 500 := rfl
      have := hM j (by omega)
      omega)
  refine ⟨some (.pv t.tree), some (.pv (code t).tree), st5, ?_, L5.1⟩
  have ek : ((1 + j : Nat) : Int) = 1 + (j : Int) := by push_cast; rfl
  rw [ek] at e4
  rw [show ((12 : Nat) : Int) = 12 from rfl] at e1
  generalize (code t).tree = CT at *
  generalize c.tree = C0 at *
  generalize t.tree = T0 at *
  simp [forStep, e1, e2, e3, e4, c1, c2, ne, e5]
abbrev jB : Cd := .leaf 66
abbrev jC : Cd := .leaf 67
abbrev jI : Cd := .leaf 73
theorem gB : jB.good := .inl rfl
theorem gC : jC.good := .inr (.inl rfl)
theorem gI : jI.good := .inr (.inr rfl)
theorem law_ends (ns : List Int) (st : Store) (a2 a3 a4 : Option LV) : exSs (Pr.sem 269) [.iff (.boolop false [.cmp .ne (.call 46 [.tup [.tup [.lit (.str [73]), .lit (.str [66])], .lit (.str [67])]]) (.tup [.lit (.str [66]), .lit (.str [67])]), .isn true (.call 46 [.lit (.str [66])]), .cmp .ne (.call 46 [.tup [.lit (.str [66]), .tup [.lit (.str [73]), .lit (.str [67])]]]) (.tup [.lit (.str [66]), .lit (.str [67])])]) [.ret (.lit (.bl false))] [], .iff (.boolop false [.cmp .ne (.call 46 [.tup [.tup [.tup [.lit (.str [66]), .lit (.str [67])], .tup [.lit (.str [73]), .lit (.str [73])]], .tup [.lit (.str [73]), .lit (.str [66])]]]) (.tup [.lit (.str [67]), .tup [.tup [.lit (.str [73]), .lit (.str [73])], .tup [.lit (.str [73]), .lit (.str [66])]]]), .cmp .ne (.call 46 [.tup [.tup [.tup [.lit (.str [67]), .lit (.str [66])], .lit (.str [73])], .lit (.str [67])]]) (.tup [.tup [.lit (.str [66]), .lit (.str [67])], .lit (.str [73])])]) [.ret (.lit (.bl false))] [], .ret (.boolop true [.cmp .eq (.call 25 [.tup [.lit (.str [73]), .lit (.str [66])], .lit (.int 1)]) (.tup [.lit (.str [66]), .lit (.int 1)]), .cmp .eq (.call 47 [.tup [.tup [.lit (.str [73]), .lit (.str [73])], .tup [.lit (.str [73]), .lit (.str [66])]], .lit (.int 2)]) (.tup [.lit (.str [109, 97, 110, 121]), .lit (.int 2)]), .cmp .eq (.call 25 [.lit (.str [67]), .lit (.int 1)]) (.tup [.lit (.str [67]), .lit (.int 0)])])] (lawsl ns a2 a3 a4) st = some (.rt (.pv (.bl true)) st) := by
  have t1 := ltold_of (n := 267) (c := .node (.node jI jB) jC) ⟨⟨gI, gB⟩, gC⟩ (by decide) (by decide) st
  have t2 := ltold_of (n := 267) (c := jB) gB (by decide) (by decide) st
  have t3 := ltold_of (n := 267) (c := .node jB (.node jI jC)) ⟨gB, gI, gC⟩ (by decide) (by decide) st
  have t4 := ltold_of (n := 267) (c := .node (.node (.node jB jC) (.node jI jI)) (.node jI jB)) ⟨⟨⟨gB, gC⟩, gI, gI⟩, gI, gB⟩ (by decide) (by decide) st
  have t5 := ltold_of (n := 267) (c := .node (.node (.node jC jB) jI) jC) ⟨⟨⟨gC, gB⟩, gI⟩, gC⟩ (by decide) (by decide) st
  have r1 := run_in (n := 268) (c := .node jI jB) (M := 1) ⟨gI, gB⟩ (by decide) (by decide) (by decide) st
  have r2 := lran_out (n := 267) (c := .node (.node jI jI) (.node jI jB)) (M := 2) ⟨⟨gI, gI⟩, gI, gB⟩ (by decide) (by decide) (by decide) st
  have r3 := run_in (n := 268) (c := jC) (M := 1) gC (by decide) (by decide) (by decide) st
  have o1 : opt (step (.node (.node jI jB) jC)) = .tup [.str [66], .str [67]] := rfl
  have o2 : opt (step jB) = .non := rfl
  have o3 : opt (step (.node jB (.node jI jC))) = .tup [.str [66], .str [67]] := rfl
  have o4 : opt (step (.node (.node (.node jB jC) (.node jI jI)) (.node jI jB))) = .tup [.str [67], .tup [.tup [.str [73], .str [73]], .tup [.str [73], .str [66]]]] := rfl
  have o5 : opt (step (.node (.node (.node jC jB) jI) jC)) = .tup [.tup [.str [66], .str [67]], .str [73]] := rfl
  have f1 : (fin (.node jI jB)).tree = .str [66] := rfl
  have f3 : (fin jC).tree = .str [67] := rfl
  have n1 : nst (.node jI jB) = 1 := rfl
  have n3 : nst jC = 0 := rfl
  rw [o1] at t1
  rw [o2] at t2
  rw [o3] at t3
  rw [o4] at t4
  rw [o5] at t5
  rw [f1, n1] at r1
  rw [f3, n3] at r3
  have q1 : doCmp .ne (.tup [.str [66], .str [67]]) (.tup [.str [66], .str [67]]) = some false := rfl
  have q2 : doCmp .ne (.tup [.str [67], .tup [.tup [.str [73], .str [73]], .tup [.str [73], .str [66]]]]) (.tup [.str [67], .tup [.tup [.str [73], .str [73]], .tup [.str [73], .str [66]]]]) = some false := rfl
  have q3 : doCmp .ne (.tup [.tup [.str [66], .str [67]], .str [73]]) (.tup [.tup [.str [66], .str [67]], .str [73]]) = some false := rfl
  have q4 : doCmp .eq (.tup [.str [66], .int 1]) (.tup [.str [66], .int 1]) = some true := rfl
  have q5 : doCmp .eq (.tup [.str [109, 97, 110, 121], .int 2]) (.tup [.str [109, 97, 110, 121], .int 2]) = some true := rfl
  have q6 : doCmp .eq (.tup [.str [67], .int 0]) (.tup [.str [67], .int 0]) = some true := rfl
  unfold manyP at r2
  simp [Cd.tree] at t1 t2 t3 t4 t5 r1 r2 r3
  simp [t1, t2, t3, t4, t5, r1, r2, r3, q1, q2, q3, q4, q5, q6]
abbrev D : Nat := 270
theorem law (ns : List Int) (hl : ns.length ≤ 63) : ∃ st, Pr.cal D 49 [.pv (.scr ns)] [] = some (.ok (.pv (.bl true)) st) := by
  rw [cal_eq Pr 269 49 m49 _ _ rfl rfl]
  let I : Nat → Slots → Store → Prop := fun _ φ st => HasF st ∧ ∃ a2 a3 a4, φ = lawsl ns a2 a3 a4
  obtain ⟨φ', st1, e, F1, b2, b3, b4, hφ⟩ := forLoop_inv (step := forStep (Pr.sem 269) (.nm 2) [.iff (.not (.val (.call 48 [.var 1, .call 41 [.var 1, .lit (.int 12)]]))) [.ret (.lit (.bl false))] [], .asg (.nm 3) (.call 28 [.var 1, .bin .add (.lit (.int 1)) (.call 27 [.var 1, .lit (.int 5)])]), .asg (.nm 4) (.call 15 [.var 3]), .iff (.boolop false [.cmp .ne (.var 4) (.call 35 [.var 3]), .not (.val (.call 48 [.var 1, .var 4]))]) [.ret (.lit (.bl false))] []]) I ((upto 0 4).map .int) 0 (lawsl ns none none none) [feedC ns 0 0 1] ⟨(Fed0 ns).hasF, _, _, _, rfl⟩ fun i x φ st _ hi => by
    obtain ⟨F, a2, a3, a4, hφ⟩ := hi
    subst hφ
    obtain ⟨b3, b4, st', e, F'⟩ := lw_turn (ns := ns) F x a2 a3 a4
    exact ⟨_, _, e, F', _, _, _, rfl⟩
  subst hφ
  have fv := forV_upto (n := 4) (by decide) (forStep (Pr.sem 269) (.nm 2) [.iff (.not (.val (.call 48 [.var 1, .call 41 [.var 1, .lit (.int 12)]]))) [.ret (.lit (.bl false))] [], .asg (.nm 3) (.call 28 [.var 1, .bin .add (.lit (.int 1)) (.call 27 [.var 1, .lit (.int 5)])]), .asg (.nm 4) (.call 15 [.var 3]), .iff (.boolop false [.cmp .ne (.var 4) (.call 35 [.var 3]), .not (.val (.call 48 [.var 1, .var 4]))]) [.ret (.lit (.bl false))] []]) (lawsl ns none none none) [feedC ns 0 0 1]
  rw [e, show ((4 : Nat) : Int) = 4 from rfl] at fv
  have hb : m49.body = (.asg (.nm 1) (.call 26 [.var 0])) :: (.for_ (.nm 2) .range [.lit (.int 4)] [.iff (.not (.val (.call 48 [.var 1, .call 41 [.var 1, .lit (.int 12)]]))) [.ret (.lit (.bl false))] [], .asg (.nm 3) (.call 28 [.var 1, .bin .add (.lit (.int 1)) (.call 27 [.var 1, .lit (.int 5)])]), .asg (.nm 4) (.call 15 [.var 3]), .iff (.boolop false [.cmp .ne (.var 4) (.call 35 [.var 3]), .not (.val (.call 48 [.var 1, .var 4]))]) [.ret (.lit (.bl false))] []]) :: [.iff (.boolop false [.cmp .ne (.call 46 [.tup [.tup [.lit (.str [73]), .lit (.str [66])], .lit (.str [67])]]) (.tup [.lit (.str [66]), .lit (.str [67])]), .isn true (.call 46 [.lit (.str [66])]), .cmp .ne (.call 46 [.tup [.lit (.str [66]), .tup [.lit (.str [73]), .lit (.str [67])]]]) (.tup [.lit (.str [66]), .lit (.str [67])])]) [.ret (.lit (.bl false))] [], .iff (.boolop false [.cmp .ne (.call 46 [.tup [.tup [.tup [.lit (.str [66]), .lit (.str [67])], .tup [.lit (.str [73]), .lit (.str [73])]], .tup [.lit (.str [73]), .lit (.str [66])]]]) (.tup [.lit (.str [67]), .tup [.tup [.lit (.str [73]), .lit (.str [73])], .tup [.lit (.str [73]), .lit (.str [66])]]]), .cmp .ne (.call 46 [.tup [.tup [.tup [.lit (.str [67]), .lit (.str [66])], .lit (.str [73])], .lit (.str [67])]]) (.tup [.tup [.lit (.str [66]), .lit (.str [67])], .lit (.str [73])])]) [.ret (.lit (.bl false))] [], .ret (.boolop true [.cmp .eq (.call 25 [.tup [.lit (.str [73]), .lit (.str [66])], .lit (.int 1)]) (.tup [.lit (.str [66]), .lit (.int 1)]), .cmp .eq (.call 47 [.tup [.tup [.lit (.str [73]), .lit (.str [73])], .tup [.lit (.str [73]), .lit (.str [66])]], .lit (.int 2)]) (.tup [.lit (.str [109, 97, 110, 121]), .lit (.int 2)]), .cmp .eq (.call 25 [.lit (.str [67]), .lit (.int 1)]) (.tup [.lit (.str [67]), .lit (.int 0)])])] := rfl
  have f0 := fed0 ns 268
  have s0 : exS (Pr.sem 269) (.asg (.nm 1) (.call 26 [.var 0])) ([.pv (.scr ns)].map some ++ List.replicate (m49.nn - m49.ar) none) [] = some (.nx (lawsl ns none none none) [feedC ns 0 0 1]) := by
    simp [m49, f0]
  have s1 : exS (Pr.sem 269) (.for_ (.nm 2) .range [.lit (.int 4)] [.iff (.not (.val (.call 48 [.var 1, .call 41 [.var 1, .lit (.int 12)]]))) [.ret (.lit (.bl false))] [], .asg (.nm 3) (.call 28 [.var 1, .bin .add (.lit (.int 1)) (.call 27 [.var 1, .lit (.int 5)])]), .asg (.nm 4) (.call 15 [.var 3]), .iff (.boolop false [.cmp .ne (.var 4) (.call 35 [.var 3]), .not (.val (.call 48 [.var 1, .var 4]))]) [.ret (.lit (.bl false))] []]) (lawsl ns none none none) [feedC ns 0 0 1] = some (.nx (lawsl ns b2 b3 b4) st1) := by
    have ev : evEs (Pr.sem 269) [.lit (.int 4)] (lawsl ns none none none) [feedC ns 0 0 1] = some (.ok [.pv (.int 4)] [feedC ns 0 0 1]) := by simp
    rw [exS_for, ev, Rs.bf_ok, fv]
  refine ⟨st1, ?_⟩
  rw [hb, exSs_cons, s0, seqS_nx, exSs_cons, s1, seqS_nx, law_ends]
  rfl
end Z51
end

section
namespace Z51
open Z
end Z51
open PySem PySem.W PySem.Calls PyProof.Rows
set_option maxHeartbeats 0 in
theorem PySem.Challenge.cw_oncelinks_k51_whole_steps_of_codes_holds : PySem.Challenge.rw_oncelinks_k51_whole_steps_of_codes.Holds := by
  w_on; o_law
  refine HandSHeadRun.head_any (r := OpenLaw.row PySem.Challenge.rw_oncelinks_k51_whole_steps_of_codes) (q := view (OpenLaw.row PySem.Challenge.rw_oncelinks_k51_whole_steps_of_codes).prog [64]) (H := Z51.hk) (ob := Z51.ob) (M := 4000) (loose := Z51.loose) (d := HandSHeadRun.topDef (OpenLaw.row PySem.Challenge.rw_oncelinks_k51_whole_steps_of_codes).prog 64) (kwd := []) Z51.ob_eq
    (by kernel_rfl) (fun s => by kernel_rfl) Z51.run (by kernel_rfl) (by kernel_rfl) (by kernel_rfl) (by rfl) (by first | assumption | decide +kernel) (by decide +kernel) ⟨rfl, rfl, rfl, rfl, rfl, by decide +kernel⟩ ?hw ?hc
  case hw => w_witness2
  case hc => exact Z.walkZ (n := 63) Z51.txt Z51.shr 1000 Z51.D 26 49 Z51.q49 "script" rfl (by decide) (by kernel_rfl) Z51.ok rfl rfl rfl rfl rfl ⟨rfl, by decide, by decide⟩ Z51.law
namespace Z51
end Z51
end
