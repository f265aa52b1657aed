import PyProof.Rows.All
import Wide.All
import OpenK.AllK
import Wide.FinOn
import PySem.Challenge.RW_oncelinks_k53_whole_codes_as_numbers
import HandS.ForMost
import HandS.ForExc
import HandS.TupAny
import HandS.TupLe
import HandS.Text
import HandS.SortInts
import HandS.IsInst
import HandS.CallSlots
import PyProof.ReprRoads
import PyProof.CallFns
import PyProof.FString4
import HandS.HotCalls
import HandS.ExcInitHot
import HandS.ExcIs
import HandS.ExcField
import HandS.HeadHook1
import HandS.Defaults
import HandS.More
import HandS.Style
import HandS.Flow
import HandS.Codes
import HandS.Replace
import HandS.Strs
import HandS.Dict
import HandS.ExcOwn
import HandS.Head0
import HandS.Head1
import HandS.Head2
import HandS.HeadEnd
import HandS.HeadHook2
import HandS.HeadHook3
import HandS.Ends
set_option Elab.async false
set_option linter.all false
set_option maxRecDepth 100000
section
/-! ZA: value trees, the small AST, its executable semantics. -/
namespace Z
abbrev Sg := List Nat
abbrev Ky := Sum Int Sg

/-- value trees: nothing in them changes any more -/
inductive PV where
  | non | bl (b : Bool) | int (i : Int) | str (s : Sg)
  | tup (xs : List PV) | lst (xs : List PV)
  | dk (kvs : List (Ky × PV)) | dt (kvs : List (List Ky × PV))
  | scr (ns : List Int)
  deriving Inhabited
structure Ex where
  cls : Nat
  fs : List (Nat × PV)
/-- what a name may hold: a tree, a cell of the store, a tuple with cells in it, the error that an except clause names -/
inductive LV where
  | pv (p : PV) | ref (n : Nat) | tup (xs : List LV) | exn (e : Ex)
  deriving Inhabited
inductive Cell where
  | lst (live : Bool) (xs : List LV)
  | dk (live : Bool) (kvs : List (Ky × LV))
  | dt (live : Bool) (kvs : List (List Ky × LV))
  | ins (C : Nat) (fs : List (Nat × LV))
  deriving Inhabited
abbrev Store := List Cell
abbrev Slots := List (Option LV)

/-! ### trees -/
mutual
def eqP : PV → PV → Bool
  | .non, .non => true
  | .bl a, .bl b => a == b
  | .bl a, .int j => (if a then 1 else 0) == j
  | .int i, .bl b => i == (if b then 1 else 0)
  | .int i, .int j => i == j
  | .str x, .str y => x == y
  | .lst xs, .lst ys => eqPs xs ys
  | .tup xs, .tup ys => eqPs xs ys
  | _, _ => false
def eqPs : List PV → List PV → Bool
  | [], [] => true
  | x :: xs, y :: ys => eqP x y && eqPs xs ys
  | _, _ => false
end
mutual
/-- fit for ==: no dict in it -/
def eqOk : PV → Bool
  | .non | .bl _ | .int _ | .str _ => true
  | .tup xs | .lst xs => eqOks xs
  | _ => false
def eqOks : List PV → Bool
  | [] => true
  | x :: xs => eqOk x && eqOks xs
end
mutual
def dep : PV → Nat
  | .tup xs | .lst xs => 1 + deps xs
  | _ => 0
def deps : List PV → Nat
  | [] => 0
  | x :: xs => max (dep x) (deps xs)
end
def maxDep : Nat := 500
def opEq (a b : PV) : Option Bool := if eqOk a && eqOk b && decide (min (dep a) (dep b) ≤ maxDep) then some (eqP a b) else none

def flat : PV → Bool
  | .non | .bl _ | .int _ | .str _ => true
  | _ => false
def line : Nat := 16777216

def unpv : List LV → Option (List PV)
  | [] => some []
  | .pv p :: xs => (unpv xs).map (p :: ·)
  | _ :: _ => none
def unpvK {κ : Type} : List (κ × LV) → Option (List (κ × PV))
  | [] => some []
  | (k, .pv p) :: xs => (unpvK xs).map ((k, p) :: ·)
  | _ :: _ => none
theorem unpv_map (xs : List PV) : unpv (xs.map .pv) = some xs := by
  induction xs with
  | nil => rfl
  | cons x xs ih => simp [unpv, ih]
theorem unpv_eq : ∀ {ls : List LV} {xs : List PV}, unpv ls = some xs → ls = xs.map .pv
  | [], xs, h => by simp [unpv] at h; subst h; rfl
  | .pv p :: ls, xs, h => by
    simp only [unpv, Option.map_eq_some_iff] at h
    obtain ⟨ys, h1, h2⟩ := h
    subst h2
    rw [unpv_eq h1]; rfl
  | .ref _ :: _, _, h => by simp [unpv] at h
  | .tup _ :: _, _, h => by simp [unpv] at h
  | .exn _ :: _, _, h => by simp [unpv] at h
theorem unpvK_map {κ : Type} (xs : List (κ × PV)) : unpvK (xs.map fun kv => (kv.1, LV.pv kv.2)) = some xs := by
  induction xs with
  | nil => rfl
  | cons x xs ih => simp [unpvK, ih]
theorem unpvK_eq {κ : Type} : ∀ {ls : List (κ × LV)} {xs : List (κ × PV)}, unpvK ls = some xs → ls = xs.map fun kv => (kv.1, LV.pv kv.2)
  | [], xs, h => by simp [unpvK] at h; subst h; rfl
  | (k, .pv p) :: ls, xs, h => by
    simp only [unpvK, Option.map_eq_some_iff] at h
    obtain ⟨ys, h1, h2⟩ := h
    subst h2
    rw [unpvK_eq h1]; rfl
  | (_, .ref _) :: _, _, h => by simp [unpvK] at h
  | (_, .tup _) :: _, _, h => by simp [unpvK] at h
  | (_, .exn _) :: _, _, h => by simp [unpvK] at h

/-- a tree where there is one: what a name holds, as it stands now -/
def peek (st : Store) : LV → Option PV
  | .pv p => some p
  | .ref n => match st[n]? with
    | some (.lst _ xs) => (unpv xs).map .lst
    | some (.dk _ kvs) => (unpvK kvs).map .dk
    | some (.dt _ kvs) => (unpvK kvs).map .dt
    | _ => none
  | .tup _ => none
  | .exn _ => none
def peeks (st : Store) : List LV → Option (List PV)
  | [] => some []
  | v :: vs => match peek st v with
    | some p => (peeks st vs).map (p :: ·)
    | none => none
def mkTup (vs : List LV) : LV := match unpv vs with
  | some ps => .pv (.tup ps)
  | none => .tup vs

/-! ### texts -/
def mkS (s : Sg) : PySem.Str := ⟨s.toArray⟩
def okS (s : Sg) : Bool := s.all fun c => decide (c < 0x110000)
section
open PySem PySem.Spec
mutual
def toD : PV → PyData
  | .non => .none
  | .bl b => .bool b
  | .int i => .int i
  | .str s => .str (mkS s)
  | .tup xs => .tuple (toDs xs)
  | .lst xs => .list (toDs xs)
  | _ => .none
def toDs : List PV → List PyData
  | [] => []
  | x :: xs => toD x :: toDs xs
end
end
/-- the text of a tree -/
def shown (p : PV) : Sg := (PySem.PyData.shown (toD p)).cps.toList
def joinS (a : Sg) : List Sg → Sg
  | [] => []
  | [x] => x
  | x :: y :: r => x ++ (a ++ joinS a (y :: r))
def strsOf : List PV → Option (List Sg)
  | [] => some []
  | .str s :: xs => (strsOf xs).map (s :: ·)
  | _ :: _ => none
/-! ### operations on trees -/
inductive BO where
  | add | sub | mul | fdiv | mod | pow
  deriving DecidableEq
inductive CO where
  | eq | ne | lt | le | gt | ge | in_ | nin | is_ | isnt
  deriving DecidableEq
inductive Ty where
  | int | bool | str | list | tuple
  deriving DecidableEq
inductive BI where
  | len | abs | int | list | sum | all | any | repr | str | max | min | sorted | tuple
  deriving DecidableEq
/-- methods of built-in types -/
inductive BM where
  | append | get2 | pop0 | join | extend | insert | index | sindex | popAt
  deriving DecidableEq
inductive IK where
  | val | range | enum
  deriving DecidableEq

def mulOk (i j : Int) : Bool := (decide (-(2 ^ 64) < i) && decide (i < 2 ^ 64)) || (decide (-(2 ^ 64) < j) && decide (j < 2 ^ 64))
def powOk (i j : Int) : Bool := decide (0 ≤ j) && decide (j ≤ 1000000) && decide (i.natAbs < 2 ^ 64)
def divOk (j : Int) : Bool := decide (0 < j) && decide (j < 1073741824)
def doBin : BO → PV → PV → Option PV
  | .add, .int i, .int j => some (.int (i + j))
  | .add, .str x, .str y => if x.length + y.length ≤ line then some (.str (x ++ y)) else none
  | .add, .lst xs, .lst ys => if xs.length + ys.length ≤ line then some (.lst (xs ++ ys)) else none
  | .add, .tup xs, .tup ys => if xs.length + ys.length ≤ line then some (.tup (xs ++ ys)) else none
  | .sub, .int i, .int j => some (.int (i - j))
  | .mul, .int i, .int j => if mulOk i j then some (.int (i * j)) else none
  | .mul, .str x, .int k => if -1073741824 < k ∧ k < 1073741824 ∧ x.length * k.toNat ≤ line ∧ x.length ≤ line then some (.str (List.replicate k.toNat x).flatten) else none
  | .fdiv, .int i, .int j => if divOk j then some (.int (i / j)) else none
  | .mod, .int i, .int j => if 0 < j then some (.int (i % j)) else none
  | .pow, .int i, .int j => if powOk i j then some (.int (i ^ j.toNat)) else none
  | _, _, _ => none
def inFlat (x : PV) (xs : List PV) : Option Bool := if flat x && xs.all flat then some (xs.any fun y => eqP y x) else none
def keyK : PV → Option Ky
  | .int i => some (.inl i)
  | .str s => some (.inr s)
  | _ => none
def keyKs : List PV → Option (List Ky)
  | [] => some []
  | x :: xs => match keyK x with
    | some k => (keyKs xs).map (k :: ·)
    | none => none
def keyT : PV → Option (List Ky)
  | .tup xs => keyKs xs
  | _ => none
def look {κ α : Type} [DecidableEq κ] (k : κ) : List (κ × α) → Option α
  | [] => none
  | (j, v) :: r => if j = k then some v else look k r
def has {κ α : Type} [DecidableEq κ] (k : κ) (kvs : List (κ × α)) : Bool := (look k kvs).isSome
def putD {κ α : Type} [DecidableEq κ] (k : κ) (v : α) (kvs : List (κ × α)) : List (κ × α) :=
  if has k kvs then kvs.map fun kv => if kv.1 = k then (kv.1, v) else kv else kvs ++ [(k, v)]
/-- one sign in a text -/
def inText (x y : Sg) : Option Bool := match x with
  | [c] => some (decide (c ∈ y))
  | _ => none
def doCmp : CO → PV → PV → Option Bool
  | .eq, a, b => opEq a b
  | .ne, a, b => (opEq a b).map (!·)
  | .lt, .int i, .int j => some (decide (i < j))
  | .le, .int i, .int j => some (decide (i ≤ j))
  | .gt, .int i, .int j => some (decide (j < i))
  | .ge, .int i, .int j => some (decide (j ≤ i))
  | .lt, .str x, .str y => some (decide (x < y))
  | .le, .str x, .str y => some (decide (x ≤ y))
  | .gt, .str x, .str y => some (decide (y < x))
  | .ge, .str x, .str y => some (decide (y ≤ x))
  | .is_, .bl a, .bl b => some (decide (a = b))
  | .isnt, .bl a, .bl b => some (!decide (a = b))
  | .in_, x, .lst xs => inFlat x xs
  | .in_, x, .tup xs => inFlat x xs
  | .nin, x, .lst xs => (inFlat x xs).map (!·)
  | .nin, x, .tup xs => (inFlat x xs).map (!·)
  | .in_, .str x, .str y => inText x y
  | .nin, .str x, .str y => (inText x y).map (!·)
  | .in_, k, .dk kvs => (keyK k).map fun k => has k kvs
  | .nin, k, .dk kvs => (keyK k).map fun k => !has k kvs
  | .in_, k, .dt kvs => (keyT k).map fun k => has k kvs
  | .nin, k, .dt kvs => (keyT k).map fun k => !has k kvs
  | _, _, _ => none
def ixN (n : Nat) (i : Int) : Option Nat := if 0 ≤ i then (if i < n then some i.toNat else none) else if -(n : Int) ≤ i then some (i + n).toNat else none
def atI {α : Type} (xs : List α) (i : Int) : Option α := match ixN xs.length i with
  | some j => xs[j]?
  | none => none
def doIdx : PV → PV → Option PV
  | .lst xs, .int i => atI xs i
  | .tup xs, .int i => atI xs i
  | .str s, .int i => if s.length ≤ line then (atI s i).map fun c => .str [c] else none
  | .dk kvs, k => match keyK k with
    | some k => look k kvs
    | none => none
  | .dt kvs, k => match keyT k with
    | some k => look k kvs
    | none => none
  | _, _ => none
def sIx (n d : Nat) : Option Int → Nat
  | none => d
  | some v => if v < 0 then (v + (n : Int)).toNat else min v.toNat n
def cut {α : Type} (xs : List α) (lo hi : Option Int) : List α := (xs.drop (sIx xs.length 0 lo)).take (sIx xs.length xs.length hi - sIx xs.length 0 lo)
def doSlc (a : PV) (lo hi : Option Int) : Option PV := match a with
  | .lst xs => some (.lst (cut xs lo hi))
  | .tup xs => some (.tup (cut xs lo hi))
  | .str s => if s.length ≤ line then some (.str (cut s lo hi)) else none
  | _ => none
/-- truth of a tree -/
def tru : PV → Option Bool
  | .non => some false
  | .bl b => some b
  | .int i => some (i != 0)
  | .str s => if s.length ≤ line then some (!s.isEmpty) else none
  | .lst xs => some (!xs.isEmpty)
  | .tup xs => some (!xs.isEmpty)
  | .dk kvs => some (!kvs.isEmpty)
  | _ => none
def isTy : Ty → PV → Option Bool
  | t, .non => some false
  | t, .bl _ => some (t == .bool || t == .int)
  | t, .int _ => some (t == .int)
  | t, .str _ => some (t == .str)
  | t, .lst _ => some (t == .list)
  | t, .tup _ => some (t == .tuple)
  | _, _ => none
def isSq : PV → Bool
  | .lst _ | .tup _ | .str _ | .non => true
  | _ => false
def intsOf : List PV → Option (List Int)
  | [] => some []
  | .int i :: xs => (intsOf xs).map (i :: ·)
  | _ :: _ => none
def boolsOf : List PV → Option (List Bool)
  | [] => some []
  | .bl b :: xs => (boolsOf xs).map (b :: ·)
  | _ :: _ => none
/-! ### sorting -/
def insA {α : Type} (le : α → α → Bool) (x : α) : List α → List α
  | [] => [x]
  | y :: ys => if le x y then x :: y :: ys else y :: insA le x ys
def srtA {α : Type} (le : α → α → Bool) : List α → List α
  | [] => []
  | x :: xs => insA le x (srtA le xs)
def srtI (ns : List Int) : List Int := srtA (fun a b => decide (a ≤ b)) ns
def srtS (ss : List Sg) : List Sg := srtA (fun a b => decide (a ≤ b)) ss
def doSort (xs : List PV) : Option PV := match intsOf xs with
  | some ns => some (.lst ((srtI ns).map .int))
  | none => match strsOf xs with
    | some ss => if ss.length < 64 then some (.lst ((srtS ss).map .str)) else none
    | none => none
/-- the text of a number -/
def numS (i : Int) : Sg := (PySem.Str.ofString (toString i)).cps.toList
def maxI : List Int → Int
  | [] => 0
  | n :: ns => ns.foldl max n
def minI : List Int → Int
  | [] => 0
  | n :: ns => ns.foldl min n
def doRepr (p : PV) : Option PV :=
  let s := shown p
  if isSq p && eqOk p && decide (dep p ≤ maxDep) && PySem.PyData.showable (toD p) && okS s && decide (s.length ≤ line) then some (.str s) else none
def doBI : BI → List PV → Option PV
  | .len, [.lst xs] => some (.int xs.length)
  | .len, [.tup xs] => some (.int xs.length)
  | .len, [.str s] => if s.length ≤ line then some (.int s.length) else none
  | .abs, [.int i] => some (.int (if i < 0 then -i else i))
  | .int, [.int i] => some (.int i)
  | .int, [.bl b] => some (.int (if b then 1 else 0))
  | .int, [.str s] => if s.length ≤ 640 then (PySem.intText? (mkS s)).map .int else none
  | .list, [.lst xs] => some (.lst xs)
  | .list, [.tup xs] => some (.lst xs)
  | .list, [.scr ns] => some (.lst (ns.map .int))
  | .sum, [.lst xs] => (intsOf xs).map fun ns => .int ns.sum
  | .all, [.lst xs] => (boolsOf xs).map fun bs => .bl (bs.all id)
  | .any, [.lst xs] => (boolsOf xs).map fun bs => .bl (bs.any id)
  | .repr, [p] => doRepr p
  | .str, [.int i] => if i.natAbs.log2 < 1920 ∧ okS (numS i) = true then some (.str (numS i)) else none
  | .max, [.int i, .int j] => some (.int (max i j))
  | .min, [.int i, .int j] => some (.int (min i j))
  | .max, [.lst xs] => match intsOf xs with
    | some (n :: ns) => some (.int (maxI (n :: ns)))
    | _ => none
  | .min, [.lst xs] => match intsOf xs with
    | some (n :: ns) => some (.int (minI (n :: ns)))
    | _ => none
  | .sorted, [.lst xs] => doSort xs
  | .tuple, [.lst xs] => some (.tup xs)
  | .tuple, [.tup xs] => some (.tup xs)
  | _, _ => none
def rangeOk (i : Int) : Bool := decide (-(2 ^ 62) ≤ i) && decide (i < 2 ^ 62)
def upto (lo : Int) : Nat → List Int
  | 0 => []
  | n + 1 => lo :: upto (lo + 1) n
def downto (lo : Int) : Nat → List Int
  | 0 => []
  | n + 1 => lo :: downto (lo - 1) n
def numbered : Nat → List PV → List PV
  | _, [] => []
  | i, x :: xs => .tup [.int (i : Nat), x] :: numbered (i + 1) xs
/-- what is walked -/
def items : IK → List PV → Option (List PV)
  | .val, [.lst xs] => some xs
  | .val, [.tup xs] => some xs
  | .val, [.str s] => if s.length ≤ line then some (s.map fun c => .str [c]) else none
  | .enum, [.lst xs] => some (numbered 0 xs)
  | .enum, [.str s] => if s.length ≤ line then some (numbered 0 (s.map fun c => .str [c])) else none
  | .range, [.int j] => if rangeOk j then some ((upto 0 j.toNat).map .int) else none
  | .range, [.int i, .int j] => if rangeOk i && rangeOk j then some ((upto i (j - i).toNat).map .int) else none
  | .range, [.int i, .int j, .int k] => if rangeOk i && rangeOk j && decide (k = -1) then some ((downto i (i - j).toNat).map .int) else none
  | _, _ => none
end Z
end

section
namespace Z
/-- targets -/
inductive MG where
  | nm (i : Nat)
  | tp (gs : List MG)
  deriving Inhabited
mutual
inductive ME where
  | var (i : Nat)
  | lit (p : PV)
  | glb (g : Nat)
  | tup (es : List ME)
  | lst (live : Bool) (es : List ME)
  | dnew (t : Bool)
  | bin (op : BO) (a b : ME)
  | cmp (op : CO) (a b : ME)
  | boolop (isAnd : Bool) (es : List ME)
  | not (a : ME)
  | neg (a : ME)
  | ite (c : MT) (a b : ME)
  | idx (a i : ME)
  | slc (a : ME) (l : Bool) (lo : ME) (h : Bool) (hi : ME)
  | rev (a : ME)
  | tabI (t : Nat) (i : ME)
  | tabL (t : Nat)
  | tabX (t : Nat) (es : List ME)
  | isn (neg : Bool) (a : ME)
  | isi (t : Ty) (a : ME)
  | bi (b : BI) (es : List ME)
  | bm (m : BM) (r : ME) (es : List ME)
  | call (f : Nat) (es : List ME)
  | lc (live : Bool) (elt : ME) (tg : MG) (ik : IK) (src : List ME) (ifs : List MT) (own : List Nat)
  | frz (a : ME)
  | fld (C : Nat) (a : ME) (f : Nat)
  | mcall (C f : Nat) (a : ME) (es : List ME)
  | new (C f : Nat) (es : List ME)
  | xfld (i f : Nat)
  | xisi (i C : Nat)
  | dsel (kvs : List (Ky × PV)) (i : ME)
  | tabD (t : Nat) (i : ME)
  | dcopy (a : ME)
  | dpairs (a : ME)
  | lcopy (a : ME)
  | slcL (a : ME) (l : Bool) (lo : ME) (h : Bool) (hi : ME)
  | cat (a b : ME)
  | lcW (live : Bool) (elt : ME) (tg : MG) (src : ME) (ifs : List MT) (own : List Nat)
inductive MT where
  | val (e : ME)
  | cmp (op : CO) (a b : ME)
  | chain (o1 o2 : CO) (a b c : ME)
  | isn (neg : Bool) (a : ME)
  | boolop (isAnd : Bool) (ts : List MT)
  | not (t : MT)
end
instance : Inhabited ME := ⟨.lit .non⟩
instance : Inhabited MT := ⟨.val default⟩
inductive MS where
  | ex (e : ME)
  | asg (g : MG) (e : ME)
  | asgI (a i e : ME)
  | aug (i : Nat) (op : BO) (e : ME)
  | augI (a i : ME) (op : BO) (e : ME)
  | iff (c : MT) (a b : List MS)
  | whl (c : MT) (a : List MS)
  | for_ (g : MG) (ik : IK) (src : List ME) (a : List MS)
  | forW (g : MG) (src : ME) (a : List MS)
  | ret (e : ME)
  | retN
  | fset (C : Nat) (a : ME) (f : Nat) (e : ME)
  | faug (C : Nat) (a : ME) (f : Nat) (op : BO) (e : ME)
  | raise (C : Nat) (es : List ME)
  | tryE (body : List MS) (C : Nat) (slot : Option Nat) (suite : List MS)
  | brk
  | cnt
  | pass
  deriving Inhabited

/-! ### results -/
inductive ER where
  | ok (v : LV) (st : Store)
  | ex (e : Ex) (st : Store)
inductive ERs where
  | ok (vs : List LV) (st : Store)
  | ex (e : Ex) (st : Store)
inductive ET where
  | ok (b : Bool) (st : Store)
  | ex (e : Ex) (st : Store)
inductive FR where
  | nx (φ : Slots) (st : Store)
  | rt (v : LV) (st : Store)
  | bk (φ : Slots) (st : Store)
  | ct (φ : Slots) (st : Store)
  | ex (e : Ex) (φ : Slots) (st : Store)
abbrev R := Option ER
def R.bind (x : Option ER) (f : LV → Store → Option ER) : Option ER := match x with
  | some (.ok v st) => f v st
  | some (.ex e st) => some (.ex e st)
  | none => none
def R.bs (x : Option ER) (f : LV → Store → Option ERs) : Option ERs := match x with
  | some (.ok v st) => f v st
  | some (.ex e st) => some (.ex e st)
  | none => none
def R.bt (x : Option ER) (f : LV → Store → Option ET) : Option ET := match x with
  | some (.ok v st) => f v st
  | some (.ex e st) => some (.ex e st)
  | none => none
def R.bf (φ : Slots) (x : Option ER) (f : LV → Store → Option FR) : Option FR := match x with
  | some (.ok v st) => f v st
  | some (.ex e st) => some (.ex e φ st)
  | none => none
def Rs.bind (x : Option ERs) (f : List LV → Store → Option ER) : Option ER := match x with
  | some (.ok v st) => f v st
  | some (.ex e st) => some (.ex e st)
  | none => none
def Rs.bs (x : Option ERs) (f : List LV → Store → Option ERs) : Option ERs := match x with
  | some (.ok v st) => f v st
  | some (.ex e st) => some (.ex e st)
  | none => none
def Rs.bf (φ : Slots) (x : Option ERs) (f : List LV → Store → Option FR) : Option FR := match x with
  | some (.ok v st) => f v st
  | some (.ex e st) => some (.ex e φ st)
  | none => none
def T.bind (x : Option ET) (f : Bool → Store → Option ER) : Option ER := match x with
  | some (.ok v st) => f v st
  | some (.ex e st) => some (.ex e st)
  | none => none
def T.bt (x : Option ET) (f : Bool → Store → Option ET) : Option ET := match x with
  | some (.ok v st) => f v st
  | some (.ex e st) => some (.ex e st)
  | none => none
def T.bf (φ : Slots) (x : Option ET) (f : Bool → Store → Option FR) : Option FR := match x with
  | some (.ok v st) => f v st
  | some (.ex e st) => some (.ex e φ st)
  | none => none
def optL (there : Bool) (x : LV) : Option (Option Int) := if there then (match x with
  | .pv (.int i) => some (some i)
  | _ => none) else some none
def okP (st : Store) (p : Option PV) : Option ER := match p with
  | some p => some (.ok (.pv p) st)
  | none => none

/-- a list of pairs, as keys and values -/
def pairsK : List PV → Option (List (Ky × PV))
  | [] => some []
  | .tup [k, v] :: r => match keyK k, pairsK r with
    | some k, some m => some ((k, v) :: m)
    | _, _ => none
  | _ => none
def mergeD (acc : List (Ky × LV)) (m : List (Ky × PV)) : List (Ky × LV) := m.foldl (fun acc kv => putD kv.1 (.pv kv.2) acc) acc
/-- from now on nothing may change it -/
def frz (v : LV) (st : Store) : Option (PV × Store) := match v with
  | .pv p => some (p, st)
  | .ref n => match st[n]? with
    | some (.lst _ xs) => match unpv xs with
      | some ps => some (.lst ps, st.set n (.lst false xs))
      | none => none
    | some (.dk _ kvs) => match unpvK kvs with
      | some ps => some (.dk ps, st.set n (.dk false kvs))
      | none => none
    | some (.dt _ kvs) => match unpvK kvs with
      | some ps => some (.dt ps, st.set n (.dt false kvs))
      | none => none
    | _ => none
  | .tup _ => none
  | .exn _ => none

/-! ### the store behind a call -/
mutual
def below (n : Nat) : LV → Bool
  | .pv _ => true
  | .ref m => decide (m < n)
  | .tup xs => belows n xs
  | .exn _ => true
def belows (n : Nat) : List LV → Bool
  | [] => true
  | x :: xs => below n x && belows n xs
end
def Cell.below (n : Nat) : Cell → Bool
  | .lst _ xs => belows n xs
  | .dk _ kvs => belows n (kvs.map (·.2))
  | .dt _ kvs => belows n (kvs.map (·.2))
  | .ins _ fs => belows n (fs.map (·.2))
/-- cells that nothing leads to any more go -/
def trunc (n : Nat) (ok : Bool) (st : Store) : Store := if ok && (st.take n).all (·.below n) then st.take n else st

/-! ### what the semantics leans on -/
structure Sem where
  cal : Nat → List LV → Store → Option ER
  glb : Nat → Option PV
  shr : Nat → Bool
  wf : Nat
  /-- how many fields have names -/
  nf : Nat
  /-- calls one less deep: an __init__'s -/
  cal1 : Nat → List LV → Store → Option ER
  /-- an error's parameters and fields; is an error of the first class one of the second -/
  xin : Nat → Option (Nat × List (Nat × Nat))
  sub : Nat → Nat → Bool
  /-- a module's tuples of texts -/
  tab : Nat → Option (List Sg)
  /-- a module's dicts -/
  dtab : Nat → Option (List (Sg × PV))
def Sem.call (S : Sem) (f : Nat) (vs : List LV) (st : Store) : Option ER :=
  match S.shr f, unpv vs with
  | false, some _ => match S.cal f vs [] with
    | some (.ok v st1) => (frz v st1).map fun p => .ok (.pv p.1) st
    | some (.ex e _) => some (.ex e st)
    | none => none
  | _, _ => match S.cal f vs st with
    | some (.ok v st1) => some (.ok v (trunc st.length (below st.length v) st1))
    | some (.ex e st1) => some (.ex e (trunc st.length true st1))
    | none => none

/-- a new instance -/
def Sem.make (S : Sem) (C f : Nat) (vs : List LV) (st : Store) : Option ER := match S.cal1 f (.ref st.length :: vs) (st ++ [.ins C []]) with
  | some (.ok (.pv .non) st1) => some (.ok (.ref st.length) (trunc (st.length + 1) true st1))
  | some (.ex e st1) => some (.ex e (trunc st.length true st1))
  | _ => none
def isIns (C nf : Nat) (x : LV) (st : Store) : Bool := match x with
  | .ref n => (match st[n]? with
    | some (.ins D fs) => D == C && fs.all fun q => decide (q.1 < nf)
    | _ => false)
  | _ => false
def putFl (f : Nat) (v : LV) : List (Nat × LV) → List (Nat × LV)
  | [] => [(f, v)]
  | (g, x) :: r => if g = f then (g, v) :: r else (g, x) :: putFl f v r
def getF (x : LV) (f : Nat) (st : Store) : Option ER := match x with
  | .ref n => match st[n]? with
    | some (.ins _ fs) => match look f fs with
      | some v => some (.ok v st)
      | none => none
    | _ => none
  | _ => none
def setFl (x : LV) (f : Nat) (v : LV) (st : Store) : Option Store := match x with
  | .ref n => match st[n]? with
    | some (.ins C fs) => if fs.length < 1000 then some (st.set n (.ins C (putFl f v fs))) else none
    | _ => none
  | _ => none
mutual
def asgG : MG → LV → Slots → Option Slots
  | .nm i, v, φ => some (φ.set i (some v))
  | .tp gs, v, φ => match v with
    | .pv (.tup xs) => asgGs gs (xs.map .pv) φ
    | .pv (.lst xs) => asgGs gs (xs.map .pv) φ
    | .tup xs => asgGs gs xs φ
    | _ => none
def asgGs : List MG → List LV → Slots → Option Slots
  | [], [], φ => some φ
  | g :: gs, v :: vs, φ => match asgG g v φ with
    | some φ => asgGs gs vs φ
    | none => none
  | _, _, _ => none
end
def wipeL (φ : Slots) : List Nat → Slots
  | [] => φ
  | v :: vs => (wipeL φ vs).set v none
def noX : Option ERs → Option (List LV × Store)
  | some (.ok vs st) => some (vs, st)
  | _ => none
def lcLoop (step : PV → Store → Option ERs) : List PV → Store → Option (List LV × Store)
  | [], st => some ([], st)
  | x :: xs, st => match noX (step x st) with
    | some (ys, st) => match lcLoop step xs st with
      | some (zs, st) => some (ys ++ zs, st)
      | none => none
    | none => none
/-- a list that is walked where it stands: fuel, the cell, the place -/
def lcWalk (step : LV → Store → Option ERs) (n : Nat) : Nat → Nat → Store → Option (List LV × Store)
  | 0, _, _ => none
  | f + 1, i, st => match st[n]? with
    | some (.lst _ ys) => match ys[i]? with
      | none => some ([], st)
      | some x => match noX (step x st) with
        | some (zs, st) => match lcWalk step n f (i + 1) st with
          | some (ws, st) => some (zs ++ ws, st)
          | none => none
        | none => none
    | _ => none
/-- how many turns at most -/
def walkF (n : Nat) (st : Store) : Nat := match st[n]? with
  | some (.lst _ ys) => ys.length + 1001
  | _ => 0
def mkLst (live : Bool) (vs : List LV) (st : Store) : Option ER :=
  if vs.length ≤ line then
    if live then some (.ok (.ref st.length) (st ++ [.lst true vs])) else match unpv vs with
      | some ps => some (.ok (.pv (.lst ps)) st)
      | none => none
  else none
def sq (st : Store) : LV → Option (List LV)
  | .ref n => match st[n]? with
    | some (.lst _ xs) => some xs
    | _ => none
  | .pv (.lst ps) => some (ps.map .pv)
  | _ => none
/-- what a method of a built-in type may be called on -/
def bmOk (m : BM) (x : LV) (st : Store) : Bool := match m, x with
  | .append, .ref n => (match st[n]? with
    | some (.lst ..) => true
    | _ => false)
  | .pop0, .ref n | .popAt, .ref n | .extend, .ref n | .insert, .ref n => (match st[n]? with
    | some (.lst ..) => true
    | _ => false)
  | .index, .ref n => (match st[n]? with
    | some (.lst ..) => true
    | _ => false)
  | .index, .pv (.lst _) => true
  | .join, .pv (.str _) => true
  | .sindex, .pv (.str _) => true
  | .get2, .pv (.dk _) => true
  | .get2, .pv (.dt _) => true
  | .get2, .ref n => (match st[n]? with
    | some (.dk ..) => true
    | some (.dt ..) => true
    | _ => false)
  | _, _ => false
/-- v.m(..) of built-in types -/
def doBM (m : BM) (v : LV) (vs : List LV) (st : Store) : Option ER := match m, vs with
  | .append, [x] => match v with
    | .ref n => match st[n]? with
      | some (.lst true xs) => if xs.length < line then some (.ok (.pv .non) (st.set n (.lst true (xs ++ [x])))) else none
      | _ => none
    | _ => none
  | .pop0, [] => match v with
    | .ref n => match st[n]? with
      | some (.lst true xs) => match xs.getLast? with
        | some y => some (.ok y (st.set n (.lst true xs.dropLast)))
        | none => none
      | _ => none
    | _ => none
  | .popAt, [i] => match v, i with
    | .ref n, .pv (.int i) => match st[n]? with
      | some (.lst true xs) => match ixN xs.length i with
        | some j => match xs[j]? with
          | some y => if xs.length ≤ line then some (.ok y (st.set n (.lst true (xs.eraseIdx j)))) else none
          | none => none
        | none => none
      | _ => none
    | _, _ => none
  | .sindex, [x] => match v, x with
    | .pv (.str a), .pv (.str b) => match PySem.Builtin.Str.occurrences (mkS a) (mkS b) 0 a.length 1 with
      | i :: _ => some (.ok (.pv (.int (i : Nat))) st)
      | [] => none
    | _, _ => none
  | .extend, [x] => match v with
    | .ref n => match st[n]?, sq st x with
      | some (.lst true xs), some ys => if xs.length + ys.length ≤ line then some (.ok (.pv .non) (st.set n (.lst true (xs ++ ys)))) else none
      | _, _ => none
    | _ => none
  | .insert, [i, y] => match v, i with
    | .ref n, .pv (.int i) => match st[n]? with
      | some (.lst true xs) => if xs.length < line ∧ 0 ≤ i ∧ i < 2 ^ 63 then some (.ok (.pv .non) (st.set n (.lst true (xs.take i.toNat ++ [y] ++ xs.drop i.toNat)))) else none
      | _ => none
    | _, _ => none
  | .index, [x] => match peek st v, peek st x with
    | some (.lst xs), some x => if flat x && xs.all flat then match xs.findIdx? fun y => eqP y x with
        | some j => some (.ok (.pv (.int (j : Nat))) st)
        | none => none
      else none
    | _, _ => none
  | .join, [x] => match v, peek st x with
    | .pv (.str a), some (.lst xs) => match strsOf xs with
      | some ss => if (ss.map (·.length)).sum + ss.length * a.length ≤ line then some (.ok (.pv (.str (joinS a ss))) st) else none
      | none => none
    | _, _ => none
  | .get2, [k, d] => match peek st v, peek st k, d with
    | some (.dk kvs), some k, .pv d => match keyK k with
      | some k => some (.ok (.pv ((look k kvs).getD d)) st)
      | none => none
    | some (.dt kvs), some k, .pv d => match keyT k with
      | some k => some (.ok (.pv ((look k kvs).getD d)) st)
      | none => none
    | _, _, _ => none
  | _, _ => none
/-- v[i] -/
def getI (v i : LV) (st : Store) : Option ER := match v with
  | .ref n => match st[n]?, i with
    | some (.lst _ xs), .pv (.int i) => match atI xs i with
      | some x => some (.ok x st)
      | none => none
    | some (.dk _ kvs), .pv k => match keyK k with
      | some k => match look k kvs with
        | some x => some (.ok x st)
        | none => none
      | none => none
    | some (.dt _ kvs), .pv k => match keyT k with
      | some k => match look k kvs with
        | some x => some (.ok x st)
        | none => none
      | none => none
    | _, _ => none
  | .pv p => match i with
    | .pv i => okP st (doIdx p i)
    | _ => none
  | .tup xs => match i with
    | .pv (.int i) => match atI xs i with
      | some x => some (.ok x st)
      | none => none
    | _ => none
  | .exn _ => none
/-- v[i] = x -/
def setI (v i x : LV) (st : Store) : Option Store := match v with
  | .ref n => match st[n]?, i with
    | some (.lst true xs), .pv (.int i) => match ixN xs.length i with
      | some j => some (st.set n (.lst true (xs.set j x)))
      | none => none
    | some (.dk true kvs), .pv k => match keyK k with
      | some k => if kvs.length < line then some (st.set n (.dk true (putD k x kvs))) else none
      | none => none
    | some (.dt true kvs), .pv k => match keyT k with
      | some k => if kvs.length < line then some (st.set n (.dt true (putD k x kvs))) else none
      | none => none
    | _, _ => none
  | _ => none
def bin (op : BO) (a b : LV) (st : Store) : Option ER := match peek st a, peek st b with
  | some x, some y => okP st (doBin op x y)
  | _, _ => none
def cmp (op : CO) (a b : LV) (st : Store) : Option ER := match peek st a, peek st b with
  | some x, some y => (doCmp op x y).map fun c => .ok (.pv (.bl c)) st
  | _, _ => none
def cmpT (op : CO) (a b : LV) (st : Store) : Option ET := match peek st a, peek st b with
  | some x, some y => (doCmp op x y).map fun c => .ok c st
  | _, _ => none
/-- how long a list or tuple is whose items need not be trees -/
def lenL (a : LV) (st : Store) : Option Nat := match a with
  | .ref n => (match st[n]? with
    | some (.lst _ xs) => some xs.length
    | _ => none)
  | .tup xs => some xs.length
  | _ => none
def lenB (b : BI) (vs : List LV) (st : Store) : Option Nat := match b, vs with
  | .len, [v] => lenL v st
  | _, _ => none
def truL (a : LV) (st : Store) : Option Bool := match lenL a st with
  | some n => some (n != 0)
  | none => match peek st a with
  | some x => tru x
  | none => none
def optI : Option LV → Option (Option Int)
  | none => some none
  | some (.pv (.int i)) => some (some i)
  | _ => none

section
variable (S : Sem)
mutual
def evE : ME → Slots → Store → Option ER
  | .var i, φ, st => match φ[i]? with
    | some (some (.exn _)) => none
    | some (some v) => some (.ok v st)
    | _ => none
  | .lit p, _, st => some (.ok (.pv p) st)
  | .glb g, _, st => okP st (S.glb g)
  | .tup es, φ, st => Rs.bind (evEs es φ st) fun vs st => if vs.length ≤ line then some (.ok (mkTup vs) st) else none
  | .lst live es, φ, st => Rs.bind (evEs es φ st) fun vs st => mkLst live vs st
  | .dnew t, _, st => some (.ok (.ref st.length) (st ++ [if t then .dt true [] else .dk true []]))
  | .bin op a b, φ, st => R.bind (evE a φ st) fun x st => R.bind (evE b φ st) fun y st => bin op x y st
  | .cmp op a b, φ, st => R.bind (evE a φ st) fun x st => R.bind (evE b φ st) fun y st => cmp op x y st
  | .boolop c es, φ, st => evB c es φ st
  | .not a, φ, st => R.bind (evE a φ st) fun x st => match truL x st with
    | some b => some (.ok (.pv (.bl (!b))) st)
    | none => none
  | .neg a, φ, st => R.bind (evE a φ st) fun x st => match x with
    | .pv (.int i) => some (.ok (.pv (.int (-i))) st)
    | _ => none
  | .ite c a b, φ, st => T.bind (evT c φ st) fun d st => if d then evE a φ st else evE b φ st
  | .idx a i, φ, st => R.bind (evE a φ st) fun x st => R.bind (evE i φ st) fun y st => getI x y st
  | .slc a l lo h hi, φ, st => R.bind (evE a φ st) fun x st => R.bind (if l then evE lo φ st else some (.ok (.pv .non) st)) fun lv st => match optL l lv with
      | some lo => R.bind (if h then evE hi φ st else some (.ok (.pv .non) st)) fun hv st => match optL h hv, peek st x with
        | some hi, some x => okP st (doSlc x lo hi)
        | _, _ => none
      | none => none
  | .tabI t i, φ, st => R.bind (evE i φ st) fun y st => match S.tab t, y with
    | some ps, .pv (.int i) => okP st ((atI ps i).map .str)
    | _, _ => none
  | .tabL t, φ, st => (S.tab t).map fun ps => .ok (.pv (.int (ps.length : Nat))) st
  | .tabX t es, φ, st => Rs.bind (evEs es φ st) fun vs st => match S.tab t, vs with
    | some ps, [.pv (.str z)] => (ps.findIdx? fun x => decide (x = z)).map fun j => .ok (.pv (.int (j : Nat))) st
    | _, _ => none
  | .rev a, φ, st => R.bind (evE a φ st) fun x st => match x with
    | .pv (.str s) => if s.length ≤ 2 then some (.ok (.pv (.str s.reverse)) st) else none
    | .pv (.tup xs) => if xs.length ≤ line then some (.ok (.pv (.tup xs.reverse)) st) else none
    | .pv (.lst xs) => some (.ok (.pv (.lst xs.reverse)) st)
    | _ => none
  | .isn neg a, φ, st => R.bind (evE a φ st) fun x st => match x with
    | .pv .non => some (.ok (.pv (.bl (!neg))) st)
    | _ => some (.ok (.pv (.bl neg)) st)
  | .isi t a, φ, st => R.bind (evE a φ st) fun x st => match peek st x with
    | some x => (isTy t x).map fun b => .ok (.pv (.bl b)) st
    | none => none
  | .bi b es, φ, st => Rs.bind (evEs es φ st) fun vs st => match lenB b vs st with
    | some n => some (.ok (.pv (.int (n : Int))) st)
    | none => match peeks st vs with
      | some ps => okP st (doBI b ps)
      | none => none
  | .bm m r es, φ, st => R.bind (evE r φ st) fun x st => if bmOk m x st then Rs.bind (evEs es φ st) fun vs st => doBM m x vs st else none
  | .call f es, φ, st => Rs.bind (evEs es φ st) fun vs st => S.call f vs st
  | .lc live elt tg ik src ifs own, φ, st => Rs.bind (evEs src φ st) fun vs st => match unpv vs with
    | some ps => match items ik ps with
      | some xs => match lcLoop (fun x st => match asgG tg (.pv x) (wipeL φ own) with
          | some φ1 => evIf ifs φ1 st fun st => R.bs (evE elt φ1 st) fun y st => some (.ok [y] st)
          | none => none) xs st with
        | some (vs, st) => mkLst live vs st
        | none => none
      | none => none
    | none => none
  | .frz a, φ, st => R.bind (evE a φ st) fun x st => (frz x st).map fun p => .ok (.pv p.1) p.2
  | .fld C a f, φ, st => R.bind (evE a φ st) fun x st => if isIns C S.nf x st then getF x f st else none
  | .mcall C f a es, φ, st => R.bind (evE a φ st) fun x st => if isIns C S.nf x st then Rs.bind (evEs es φ st) fun vs st => S.call f (x :: vs) st else none
  | .new C f es, φ, st => Rs.bind (evEs es φ st) fun vs st => S.make C f vs st
  | .xfld i f, φ, st => match φ[i]? with
    | some (some (.exn e)) => match S.xin e.cls with
      | some nf => if nf.2.any fun q => q.1 == f then okP st (look f e.fs) else none
      | none => none
    | _ => none
  | .xisi i C, φ, st => match φ[i]? with
    | some (some (.exn e)) => match S.xin e.cls with
      | some _ => some (.ok (.pv (.bl (S.sub e.cls C))) st)
      | none => none
    | _ => none
  | .dsel kvs i, φ, st => R.bind (evE i φ st) fun y st => match y with
    | .pv k => match keyK k with
      | some k => okP st (look k kvs)
      | none => none
    | _ => none
  | .tabD t i, φ, st => R.bind (evE i φ st) fun y st => match S.dtab t, y with
    | some kvs, .pv (.str z) => okP st (look z kvs)
    | _, _ => none
  | .dcopy a, φ, st => R.bind (evE a φ st) fun x st => match peek st x with
    | some (.dk kvs) => some (.ok (.ref st.length) (st ++ [.dk true (kvs.map fun kv => (kv.1, .pv kv.2))]))
    | _ => none
  | .dpairs a, φ, st => R.bind (evE a φ st) fun x st => match peek st x with
    | some (.lst ps) => (match pairsK ps with
      | some m => some (.ok (.ref st.length) (st ++ [.dk true (mergeD [] m)]))
      | none => none)
    | _ => none
  | .slcL a l lo h hi, φ, st => R.bind (evE a φ st) fun x st => R.bind (if l then evE lo φ st else some (.ok (.pv .non) st)) fun lv st => match optL l lv with
      | some lo => R.bind (if h then evE hi φ st else some (.ok (.pv .non) st)) fun hv st => match optL h hv, peek st x with
        | some hi, some (.lst ps) => some (.ok (.ref st.length) (st ++ [.lst true ((cut ps lo hi).map .pv)]))
        | _, _ => none
      | none => none
  | .lcopy a, φ, st => R.bind (evE a φ st) fun x st => match sq st x with
    | some xs => if xs.length ≤ line then some (.ok (.ref st.length) (st ++ [.lst true xs])) else none
    | none => none
  | .cat a b, φ, st => R.bind (evE a φ st) fun x st => R.bind (evE b φ st) fun y st => match sq st x, sq st y with
    | some xs, some ys => if xs.length + ys.length ≤ line then some (.ok (.ref st.length) (st ++ [.lst true (xs ++ ys)])) else none
    | _, _ => none
  | .lcW live elt tg src ifs own, φ, st => R.bind (evE src φ st) fun v st => match v with
    | .ref n => match lcWalk (fun x st => match asgG tg x (wipeL φ own) with
          | some φ1 => evIf ifs φ1 st fun st => R.bs (evE elt φ1 st) fun y st => some (.ok [y] st)
          | none => none) n (walkF n st) 0 st with
        | some (vs, st) => mkLst live vs st
        | none => none
    | _ => none
def evEs : List ME → Slots → Store → Option ERs
  | [], _, st => some (.ok [] st)
  | e :: es, φ, st => R.bs (evE e φ st) fun v st => Rs.bs (evEs es φ st) fun vs st => some (.ok (v :: vs) st)
def evT : MT → Slots → Store → Option ET
  | .boolop c es, φ, st => evBT c es φ st
  | .chain o1 o2 a b c, φ, st => R.bt (evE a φ st) fun x st => R.bt (evE b φ st) fun y st => T.bt (cmpT o1 x y st) fun k st => if k then R.bt (evE c φ st) fun z st => cmpT o2 y z st else some (.ok false st)
  | .not a, φ, st => T.bt (evT a φ st) fun b st => some (.ok (!b) st)
  | .val e, φ, st => R.bt (evE e φ st) fun v st => (truL v st).map fun b => .ok b st
  | .cmp op a b, φ, st => R.bt (evE a φ st) fun x st => R.bt (evE b φ st) fun y st => cmpT op x y st
  | .isn neg a, φ, st => R.bt (evE a φ st) fun x st => match x with
    | .pv .non => some (.ok (!neg) st)
    | _ => some (.ok neg st)
def evB (c : Bool) : List ME → Slots → Store → Option ER
  | [], _, _ => none
  | [e], φ, st => evE e φ st
  | e :: es, φ, st => R.bind (evE e φ st) fun v st => match truL v st with
    | some b => if b == c then evB c es φ st else some (.ok v st)
    | none => none
def evBT (c : Bool) : List MT → Slots → Store → Option ET
  | [], _, _ => none
  | [e], φ, st => evT e φ st
  | e :: es, φ, st => T.bt (evT e φ st) fun b st => if b == c then evBT c es φ st else some (.ok b st)
def evIf : List MT → Slots → Store → (Store → Option ERs) → Option ERs
  | [], _, st, k => k st
  | c :: _, φ, st, k => match evT c φ st with
    | some (.ok true st) => k st
    | some (.ok false st) => some (.ok [] st)
    | some (.ex e st) => some (.ex e st)
    | none => none
end
end
end Z
end

section
namespace Z
example (S : Sem) (p φ st) : evE S (.lit p) φ st = some (.ok (.pv p) st) := rfl
example (S : Sem) (a b φ st) : evE S (.bin .add a b) φ st = R.bind (evE S a φ st) fun x st => R.bind (evE S b φ st) fun y st => bin .add x y st := rfl

def doAug (op : BO) (p q : PV) : Option PV := match op, p with
  | .pow, _ => none
  | .mul, .str _ => none
  | _, .lst _ => none
  | _, .tup _ => none
  | _, _ => doBin op p q
/-- x op= y: a list is made longer in place -/
def augOp (op : BO) (x y : LV) (st : Store) : Option ER := match x with
  | .ref n => match op, st[n]?, sq st y with
    | .add, some (.lst true xs), some ys => if xs.length + ys.length ≤ line then some (.ok (.ref n) (st.set n (.lst true (xs ++ ys)))) else none
    | _, _, _ => none
  | .pv p => match peek st y with
    | some q => okP st (doAug op p q)
    | none => none
  | .tup _ => none
  | .exn _ => none
/-- the fields that an __init__ leaves, the last one ahead -/
def extP (ps : List PV) : List (Nat × PV) → List (Nat × Nat) → Option (List (Nat × PV))
  | acc, [] => some acc
  | acc, (f, i) :: r => match ps[i]? with
    | some p => extP ps ((f, p) :: acc) r
    | none => none
/-- behind an except suite its name is gone -/
def unslot (i : Option Nat) : Option FR → Option FR
  | some (.nx φ st) => some (.nx (match i with
    | some i => φ.set i none
    | none => φ) st)
  | some (.bk φ st) => some (.bk (match i with
    | some i => φ.set i none
    | none => φ) st)
  | some (.ct φ st) => some (.ct (match i with
    | some i => φ.set i none
    | none => φ) st)
  | some (.rt v st) => some (.rt v st)
  | _ => none
def forLoop (step : PV → Slots → Store → Option FR) : List PV → Slots → Store → Option FR
  | [], φ, st => some (.nx φ st)
  | x :: xs, φ, st => match step x φ st with
    | some (.nx φ st) => forLoop step xs φ st
    | some (.ct φ st) => forLoop step xs φ st
    | some (.bk φ st) => some (.nx φ st)
    | r => r
def forWalk (step : LV → Slots → Store → Option FR) (n : Nat) : Nat → Nat → Slots → Store → Option FR
  | 0, _, _, _ => none
  | f + 1, i, φ, st => match st[n]? with
    | some (.lst _ ys) => match ys[i]? with
      | none => some (.nx φ st)
      | some x => match step x φ st with
        | some (.nx φ st) => forWalk step n f (i + 1) φ st
        | some (.ct φ st) => forWalk step n f (i + 1) φ st
        | some (.bk φ st) => some (.nx φ st)
        | r => r
    | _ => none
def whLoop (test : Slots → Store → Option ET) (body : Slots → Store → Option FR) : Nat → Slots → Store → Option FR
  | 0, _, _ => none
  | n + 1, φ, st => T.bf φ (test φ st) fun b st => if b then match body φ st with
      | some (.nx φ st) => whLoop test body n φ st
      | some (.ct φ st) => whLoop test body n φ st
      | some (.bk φ st) => some (.nx φ st)
      | r => r
    else some (.nx φ st)
section
variable (S : Sem)
mutual
def exS : MS → Slots → Store → Option FR
  | .ex e, φ, st => R.bf φ (evE S e φ st) fun _ st => some (.nx φ st)
  | .asg g e, φ, st => R.bf φ (evE S e φ st) fun v st => (asgG g v φ).map fun φ => .nx φ st
  | .asgI a i e, φ, st => R.bf φ (evE S e φ st) fun v st => R.bf φ (evE S a φ st) fun x st => R.bf φ (evE S i φ st) fun y st => (setI x y v st).map fun st => .nx φ st
  | .aug i op e, φ, st => match φ[i]? with
    | some (some x) => R.bf φ (evE S e φ st) fun y st => R.bf φ (augOp op x y st) fun z st => some (.nx (φ.set i (some z)) st)
    | _ => none
  | .augI a i op e, φ, st => R.bf φ (evE S a φ st) fun x st => R.bf φ (evE S i φ st) fun y st => R.bf φ (getI x y st) fun v st => R.bf φ (evE S e φ st) fun w st =>
      R.bf φ (augOp op v w st) fun z st => (setI x y z st).map fun st => .nx φ st
  | .iff c a b, φ, st => T.bf φ (evT S c φ st) fun d st => if d then exSs a φ st else exSs b φ st
  | .whl c a, φ, st => whLoop (evT S c) (exSs a) S.wf φ st
  | .for_ g ik src a, φ, st => Rs.bf φ (evEs S src φ st) fun vs st => match unpv vs with
    | some ps => match items ik ps with
      | some xs => forLoop (fun x φ st => match asgG g (.pv x) φ with
          | some φ => exSs a φ st
          | none => none) xs φ st
      | none => none
    | none => none
  | .forW g src a, φ, st => R.bf φ (evE S src φ st) fun v st => match v with
    | .ref n => forWalk (fun x φ st => match asgG g x φ with
          | some φ => exSs a φ st
          | none => none) n (walkF n st) 0 φ st
    | _ => none
  | .ret e, φ, st => R.bf φ (evE S e φ st) fun v st => some (.rt v st)
  | .retN, _, st => some (.rt (.pv .non) st)
  | .fset C a f e, φ, st => R.bf φ (evE S e φ st) fun v st => R.bf φ (evE S a φ st) fun x st => if isIns C S.nf x st then (setFl x f v st).map fun st => .nx φ st else none
  | .faug C a f op e, φ, st => R.bf φ (evE S a φ st) fun x st => if isIns C S.nf x st then R.bf φ (getF x f st) fun v st => R.bf φ (evE S e φ st) fun w st =>
      R.bf φ (augOp op v w st) fun z st => if isIns C S.nf x st then (setFl x f z st).map fun st => .nx φ st else none
    else none
  | .raise C es, φ, st => Rs.bf φ (evEs S es φ st) fun vs st => match S.xin C, unpv vs with
    | some (n, fl), some ps => if ps.length = n then (extP ps [] fl).map fun fs => .ex ⟨C, fs⟩ φ st else none
    | _, _ => none
  | .tryE body C slot suite, φ, st => match exSs body φ st with
    | some (.ex e φ1 st1) => if (S.xin e.cls).isNone then none else if S.sub e.cls C then unslot slot (exSs suite (match slot with
        | some i => φ1.set i (some (.exn e))
        | none => φ1) st1) else some (.ex e φ1 st1)
    | r => r
  | .brk, φ, st => some (.bk φ st)
  | .cnt, φ, st => some (.ct φ st)
  | .pass, φ, st => some (.nx φ st)
def exSs : List MS → Slots → Store → Option FR
  | [], φ, st => some (.nx φ st)
  | s :: ss, φ, st => match exS s φ st with
    | some (.nx φ st) => exSs ss φ st
    | r => r
end
end
/-- a def: how many parameters, how many names, its body -/
structure MD where
  ar : Nat
  nn : Nat
  body : List MS
  deriving Inhabited
def endR : Option FR → Option ER
  | some (.nx _ st) => some (.ok (.pv .non) st)
  | some (.rt v st) => some (.ok v st)
  | some (.ex e _ st) => some (.ex e st)
  | _ => none
def MD.run (d : MD) (S : Sem) (vs : List LV) (st : Store) : Option ER :=
  if vs.length = d.ar then endR (exSs S d.body (vs.map some ++ List.replicate (d.nn - d.ar) none) st) else none
structure Prog where
  defs : List MD
  glb : Nat → Option PV
  shr : Nat → Bool
  wf : Nat
  nf : Nat := 0
  xin : Nat → Option (Nat × List (Nat × Nat)) := fun _ => none
  sub : Nat → Nat → Bool := fun _ _ => false
  tab : Nat → Option (List Sg) := fun _ => none
  dtab : Nat → Option (List (Sg × PV)) := fun _ => none
abbrev Cal := Nat → List LV → Store → Option ER
def Prog.runBy (P : Prog) (c c1 : Cal) : Cal := fun f vs st => match P.defs[f]? with
  | some d => d.run ⟨c, P.glb, P.shr, P.wf, P.nf, c1, P.xin, P.sub, P.tab, P.dtab⟩ vs st
  | none => none
/-- n calls deep, n - 1 -/
def Prog.cal2 (P : Prog) : Nat → Cal × Cal
  | 0 => (fun _ _ _ => none, fun _ _ _ => none)
  | n + 1 => (P.runBy (P.cal2 n).1 (P.cal2 n).2, (P.cal2 n).1)
def Prog.cal (P : Prog) (n : Nat) : Cal := (P.cal2 n).1
def Prog.sem (P : Prog) (n : Nat) : Sem := ⟨(P.cal2 n).1, P.glb, P.shr, P.wf, P.nf, (P.cal2 n).2, P.xin, P.sub, P.tab, P.dtab⟩
end Z
end

section
/-! ZD: how trees and cells lie in the abstract heap of the layer. -/
namespace Z
open PySem L2
def kyS : Ky → Key
  | .inl i => .inl i
  | .inr s => .inr (mkS s)
def okK : Ky → Bool
  | .inl _ => true
  | .inr s => okS s
theorem mkS_inj {a b : Sg} (h : mkS a = mkS b) : a = b := by
  have h1 : a.toArray = b.toArray := by simpa [mkS] using h
  simpa using congrArg Array.toList h1
theorem mkS_len (a : Sg) : (mkS a).length = a.length := by simp [mkS, Str.length]
theorem mkS_cps (a : Sg) : (mkS a).cps.toList = a := by simp [mkS]
theorem kyS_inj {a b : Ky} (h : kyS a = kyS b) : a = b := by
  cases a <;> cases b <;> simp only [kyS, Sum.inl.injEq, Sum.inr.injEq, reduceCtorEq] at h
  · rw [h]
  · rw [mkS_inj h]
theorem kySs_inj : ∀ {a b : List Ky}, a.map kyS = b.map kyS → a = b
  | [], [], _ => rfl
  | [], _ :: _, h => by simp at h
  | _ :: _, [], h => by simp at h
  | x :: a, y :: b, h => by
    simp only [List.map_cons, List.cons.injEq] at h
    rw [kyS_inj h.1, kySs_inj h.2]

section
variable (K : PySem.W.Frag) (F : Hp)
mutual
/-- the tree p lies at v; all its objects stand in F -/
def RP : PV → V → Prop
  | .non, v => v = .non
  | .bl b, v => v = .bl b
  | .int i, v => v = .int i
  | .str s, v => v = .str (mkS s) ∧ okS s = true
  | .tup xs, v => ∃ a vs, v = .ref a ∧ F a = some (.tup vs) ∧ RPs xs vs
  | .lst xs, v => ∃ a vs, v = .ref a ∧ F a = some (.lst vs) ∧ RPs xs vs
  | .dk kvs, v => ∃ a ks, v = .ref a ∧ F a = some (.dK ks) ∧ RPk kvs ks
  | .dt kvs, v => ∃ a ks, v = .ref a ∧ F a = some (.dT ks) ∧ RPt kvs ks
  | .scr ns, v => ∃ a, v = .ref a ∧ SqL K F a (ns.map V.int)
def RPs : List PV → List V → Prop
  | [], vs => vs = []
  | x :: xs, vs => ∃ v r, vs = v :: r ∧ RP x v ∧ RPs xs r
def RPk : List (Ky × PV) → List (Key × V) → Prop
  | [], ks => ks = []
  | (k, p) :: xs, ks => ∃ v r, ks = (kyS k, v) :: r ∧ okK k = true ∧ RP p v ∧ RPk xs r
def RPt : List (List Ky × PV) → List (List Key × V) → Prop
  | [], ks => ks = []
  | (k, p) :: xs, ks => ∃ v r, ks = (k.map kyS, v) :: r ∧ k.all okK = true ∧ RP p v ∧ RPt xs r
end
variable (ρ : List Addr)
mutual
def RL : LV → V → Prop
  | .pv p, v => RP K F p v
  | .ref n, v => ∃ a, v = .ref a ∧ ρ[n]? = some a
  | .tup xs, v => ∃ a vs, v = .ref a ∧ F a = some (.tup vs) ∧ RLs xs vs
  | .exn _, _ => False
def RLs : List LV → List V → Prop
  | [], vs => vs = []
  | x :: xs, vs => ∃ v r, vs = v :: r ∧ RL x v ∧ RLs xs r
end
def RLk : List (Ky × LV) → List (Key × V) → Prop
  | [], ks => ks = []
  | (k, p) :: xs, ks => ∃ v r, ks = (kyS k, v) :: r ∧ okK k = true ∧ RL K F ρ p v ∧ RLk xs r
def RLt : List (List Ky × LV) → List (List Key × V) → Prop
  | [], ks => ks = []
  | (k, p) :: xs, ks => ∃ v r, ks = (k.map kyS, v) :: r ∧ k.all okK = true ∧ RL K F ρ p v ∧ RLt xs r
end

/-- F stands in F' -/
abbrev Sub (F F' : Hp) : Prop := ∀ b o, F b = some o → F' b = some o
theorem Sub.refl (F : Hp) : Sub F F := fun _ _ h => h
theorem Sub.trans {F F' F'' : Hp} (a : Sub F F') (b : Sub F' F'') : Sub F F'' := fun c o h => b c o (a c o h)
theorem Sub.sqT {K : PySem.W.Frag} {F F' : Hp} {a : Addr} {xs : List V} (e : Sub F F') (h : SqT K F a xs) : SqT K F' a xs := by
  rcases h with (h | ⟨o, h⟩) | h
  · exact .inl (.inl (e _ _ h))
  · exact .inl (.inr ⟨o, e _ _ h⟩)
  · exact .inr h
theorem Sub.sqL {K : PySem.W.Frag} {F F' : Hp} {a : Addr} {xs : List V} (e : Sub F F') (h : SqL K F a xs) : SqL K F' a xs := by
  rcases h with (h | ⟨o, h⟩) | h
  · exact .inl (.inl (e _ _ h))
  · exact .inl (.inr ⟨o, e _ _ h⟩)
  · exact .inr h
section
variable {K : PySem.W.Frag} {F F' : Hp}
mutual
theorem RP.mono (e : Sub F F') : ∀ (p : PV) (v : V), RP K F p v → RP K F' p v
  | .non, v, h => by simpa only [RP] using h
  | .bl b, v, h => by simpa only [RP] using h
  | .int i, v, h => by simpa only [RP] using h
  | .str s, v, h => by simpa only [RP] using h
  | .tup xs, v, h => by
    simp only [RP] at h ⊢
    obtain ⟨a, vs, e1, e2, e3⟩ := h
    exact ⟨a, vs, e1, e _ _ e2, RPs.mono e xs vs e3⟩
  | .lst xs, v, h => by
    simp only [RP] at h ⊢
    obtain ⟨a, vs, e1, e2, e3⟩ := h
    exact ⟨a, vs, e1, e _ _ e2, RPs.mono e xs vs e3⟩
  | .dk kvs, v, h => by
    simp only [RP] at h ⊢
    obtain ⟨a, vs, e1, e2, e3⟩ := h
    exact ⟨a, vs, e1, e _ _ e2, RPk.mono e kvs vs e3⟩
  | .dt kvs, v, h => by
    simp only [RP] at h ⊢
    obtain ⟨a, vs, e1, e2, e3⟩ := h
    exact ⟨a, vs, e1, e _ _ e2, RPt.mono e kvs vs e3⟩
  | .scr ns, v, h => by
    simp only [RP] at h ⊢
    obtain ⟨a, e1, e2⟩ := h
    exact ⟨a, e1, e.sqL e2⟩
theorem RPs.mono (e : Sub F F') : ∀ (ps : List PV) (vs : List V), RPs K F ps vs → RPs K F' ps vs
  | [], vs, h => by simpa only [RPs] using h
  | x :: xs, vs, h => by
    simp only [RPs] at h ⊢
    obtain ⟨v, r, e1, e2, e3⟩ := h
    exact ⟨v, r, e1, RP.mono e x v e2, RPs.mono e xs r e3⟩
theorem RPk.mono (e : Sub F F') : ∀ (ps : List (Ky × PV)) (vs : List (Key × V)), RPk K F ps vs → RPk K F' ps vs
  | [], vs, h => by simpa only [RPk] using h
  | (k, x) :: xs, vs, h => by
    simp only [RPk] at h ⊢
    obtain ⟨v, r, e1, e2, e3, e4⟩ := h
    exact ⟨v, r, e1, e2, RP.mono e x v e3, RPk.mono e xs r e4⟩
theorem RPt.mono (e : Sub F F') : ∀ (ps : List (List Ky × PV)) (vs : List (List Key × V)), RPt K F ps vs → RPt K F' ps vs
  | [], vs, h => by simpa only [RPt] using h
  | (k, x) :: xs, vs, h => by
    simp only [RPt] at h ⊢
    obtain ⟨v, r, e1, e2, e3, e4⟩ := h
    exact ⟨v, r, e1, e2, RP.mono e x v e3, RPt.mono e xs r e4⟩
end
/-- cells keep their numbers -/
abbrev Pre (ρ ρ' : List Addr) : Prop := ∀ (n : Nat) (a : Addr), ρ[n]? = some a → ρ'[n]? = some a
theorem Pre.refl (ρ : List Addr) : Pre ρ ρ := fun _ _ h => h
theorem Pre.trans {a b c : List Addr} (x : Pre a b) (y : Pre b c) : Pre a c := fun n k h => y n k (x n k h)
theorem Pre.snoc (ρ : List Addr) (a : Addr) : Pre ρ (ρ ++ [a]) := fun n b h => by
  rw [List.getElem?_append_left (List.getElem?_eq_some_iff.mp h).1]
  exact h
variable {ρ ρ' : List Addr}
mutual
theorem RL.mono (e : Sub F F') (q : Pre ρ ρ') : ∀ (p : LV) (v : V), RL K F ρ p v → RL K F' ρ' p v
  | .pv p, v, h => by
    simp only [RL] at h ⊢
    exact RP.mono e p v h
  | .ref n, v, h => by
    simp only [RL] at h ⊢
    obtain ⟨a, e1, e2⟩ := h
    exact ⟨a, e1, q _ _ e2⟩
  | .tup xs, v, h => by
    simp only [RL] at h ⊢
    obtain ⟨a, vs, e1, e2, e3⟩ := h
    exact ⟨a, vs, e1, e _ _ e2, RLs.mono e q xs vs e3⟩
  | .exn _, _, h => by simp only [RL] at h
theorem RLs.mono (e : Sub F F') (q : Pre ρ ρ') : ∀ (ps : List LV) (vs : List V), RLs K F ρ ps vs → RLs K F' ρ' ps vs
  | [], vs, h => by simpa only [RLs] using h
  | x :: xs, vs, h => by
    simp only [RLs] at h ⊢
    obtain ⟨v, r, e1, e2, e3⟩ := h
    exact ⟨v, r, e1, RL.mono e q x v e2, RLs.mono e q xs r e3⟩
end
theorem RLk.mono (e : Sub F F') (q : Pre ρ ρ') : ∀ {ps : List (Ky × LV)} {vs : List (Key × V)}, RLk K F ρ ps vs → RLk K F' ρ' ps vs
  | [], vs, h => by simpa only [RLk] using h
  | (k, x) :: xs, vs, h => by
    simp only [RLk] at h ⊢
    obtain ⟨v, r, e1, e2, e3, e4⟩ := h
    exact ⟨v, r, e1, e2, RL.mono e q x v e3, RLk.mono e q e4⟩
theorem RLt.mono (e : Sub F F') (q : Pre ρ ρ') : ∀ {ps : List (List Ky × LV)} {vs : List (List Key × V)}, RLt K F ρ ps vs → RLt K F' ρ' ps vs
  | [], vs, h => by simpa only [RLt] using h
  | (k, x) :: xs, vs, h => by
    simp only [RLt] at h ⊢
    obtain ⟨v, r, e1, e2, e3, e4⟩ := h
    exact ⟨v, r, e1, e2, RL.mono e q x v e3, RLt.mono e q e4⟩

/-! ### lists of trees -/
theorem RPs.length : ∀ {xs : List PV} {vs : List V}, RPs K F xs vs → xs.length = vs.length
  | [], vs, h => by simp only [RPs] at h; subst h; rfl
  | x :: xs, vs, h => by
    simp only [RPs] at h
    obtain ⟨v, r, e1, _, e3⟩ := h
    subst e1
    rw [List.length_cons, List.length_cons, RPs.length e3]
theorem RPs.get : ∀ {xs : List PV} {vs : List V} {i : Nat} {x : PV}, RPs K F xs vs → xs[i]? = some x → ∃ v, vs[i]? = some v ∧ RP K F x v
  | [], _, _, _, _, e => by simp at e
  | x :: xs, vs, 0, y, h, e => by
    simp only [RPs] at h
    obtain ⟨v, r, e1, e2, e3⟩ := h
    subst e1
    simp only [List.getElem?_cons_zero, Option.some.injEq] at e
    subst e
    exact ⟨v, rfl, e2⟩
  | x :: xs, vs, i + 1, y, h, e => by
    simp only [RPs] at h
    obtain ⟨v, r, e1, e2, e3⟩ := h
    subst e1
    rw [List.getElem?_cons_succ] at e
    obtain ⟨w, h1, h2⟩ := RPs.get e3 e
    exact ⟨w, by simpa using h1, h2⟩
theorem RPs.append : ∀ {xs ys : List PV} {vs ws : List V}, RPs K F xs vs → RPs K F ys ws → RPs K F (xs ++ ys) (vs ++ ws)
  | [], _, vs, _, h, h' => by simp only [RPs] at h; subst h; exact h'
  | x :: xs, ys, vs, ws, h, h' => by
    simp only [RPs] at h
    obtain ⟨v, r, e1, e2, e3⟩ := h
    subst e1
    show RPs K F (x :: (xs ++ ys)) (v :: (r ++ ws))
    simp only [RPs]
    exact ⟨v, r ++ ws, rfl, e2, RPs.append e3 h'⟩
theorem RPs.drop : ∀ {xs : List PV} {vs : List V} (n : Nat), RPs K F xs vs → RPs K F (xs.drop n) (vs.drop n)
  | _, _, 0, h => h
  | [], vs, n + 1, h => by simp only [RPs] at h; subst h; simp [RPs]
  | x :: xs, vs, n + 1, h => by
    simp only [RPs] at h
    obtain ⟨v, r, e1, e2, e3⟩ := h
    subst e1
    simpa using RPs.drop n e3
theorem RPs.take : ∀ {xs : List PV} {vs : List V} (n : Nat), RPs K F xs vs → RPs K F (xs.take n) (vs.take n)
  | xs, _, 0, h => by simp [RPs]
  | [], vs, n + 1, h => by simp only [RPs] at h; subst h; simp [RPs]
  | x :: xs, vs, n + 1, h => by
    simp only [RPs] at h
    obtain ⟨v, r, e1, e2, e3⟩ := h
    subst e1
    simp only [List.take_succ_cons, RPs]
    exact ⟨v, _, rfl, e2, RPs.take n e3⟩
theorem RLs.length : ∀ {xs : List LV} {vs : List V}, RLs K F ρ xs vs → xs.length = vs.length
  | [], vs, h => by simp only [RLs] at h; subst h; rfl
  | x :: xs, vs, h => by
    simp only [RLs] at h
    obtain ⟨v, r, e1, _, e3⟩ := h
    subst e1
    rw [List.length_cons, List.length_cons, RLs.length e3]
theorem RLs.get : ∀ {xs : List LV} {vs : List V} {i : Nat} {x : LV}, RLs K F ρ xs vs → xs[i]? = some x → ∃ v, vs[i]? = some v ∧ RL K F ρ x v
  | [], _, _, _, _, e => by simp at e
  | x :: xs, vs, 0, y, h, e => by
    simp only [RLs] at h
    obtain ⟨v, r, e1, e2, e3⟩ := h
    subst e1
    simp only [List.getElem?_cons_zero, Option.some.injEq] at e
    subst e
    exact ⟨v, rfl, e2⟩
  | x :: xs, vs, i + 1, y, h, e => by
    simp only [RLs] at h
    obtain ⟨v, r, e1, e2, e3⟩ := h
    subst e1
    rw [List.getElem?_cons_succ] at e
    obtain ⟨w, h1, h2⟩ := RLs.get e3 e
    exact ⟨w, by simpa using h1, h2⟩
theorem RLs.append : ∀ {xs ys : List LV} {vs ws : List V}, RLs K F ρ xs vs → RLs K F ρ ys ws → RLs K F ρ (xs ++ ys) (vs ++ ws)
  | [], _, vs, _, h, h' => by simp only [RLs] at h; subst h; exact h'
  | x :: xs, ys, vs, ws, h, h' => by
    simp only [RLs] at h
    obtain ⟨v, r, e1, e2, e3⟩ := h
    subst e1
    show RLs K F ρ (x :: (xs ++ ys)) (v :: (r ++ ws))
    simp only [RLs]
    exact ⟨v, r ++ ws, rfl, e2, RLs.append e3 h'⟩
theorem RLs.set {x : LV} {v : V} (h : RL K F ρ x v) : ∀ {xs : List LV} {vs : List V} (i : Nat), RLs K F ρ xs vs → RLs K F ρ (xs.set i x) (vs.set i v)
  | [], vs, i, q => by simp only [RLs] at q; subst q; simp [RLs]
  | y :: ys, vs, 0, q => by
    simp only [RLs] at q
    obtain ⟨w, r, e1, e2, e3⟩ := q
    subst e1
    simp only [List.set_cons_zero, RLs]
    exact ⟨v, r, rfl, h, e3⟩
  | y :: ys, vs, i + 1, q => by
    simp only [RLs] at q
    obtain ⟨w, r, e1, e2, e3⟩ := q
    subst e1
    simp only [List.set_cons_succ, RLs]
    exact ⟨w, _, rfl, e2, RLs.set h i e3⟩
theorem RLs_pv : ∀ {xs : List PV} {vs : List V}, RLs K F ρ (xs.map .pv) vs ↔ RPs K F xs vs
  | [], vs => by simp [RLs, RPs]
  | x :: xs, vs => by
    simp only [List.map_cons, RLs, RPs, RL]
    constructor
    · rintro ⟨v, r, e1, e2, e3⟩
      exact ⟨v, r, e1, e2, RLs_pv.mp e3⟩
    · rintro ⟨v, r, e1, e2, e3⟩
      exact ⟨v, r, e1, e2, RLs_pv.mpr e3⟩
theorem RLk_pv : ∀ {xs : List (Ky × PV)} {vs : List (Key × V)}, RLk K F ρ (xs.map fun kv => (kv.1, LV.pv kv.2)) vs ↔ RPk K F xs vs
  | [], vs => by simp [RLk, RPk]
  | (k, x) :: xs, vs => by
    simp only [List.map_cons, RLk, RPk, RL]
    constructor
    · rintro ⟨v, r, e1, e2, e3, e4⟩
      exact ⟨v, r, e1, e2, e3, RLk_pv.mp e4⟩
    · rintro ⟨v, r, e1, e2, e3, e4⟩
      exact ⟨v, r, e1, e2, e3, RLk_pv.mpr e4⟩
theorem RLt_pv : ∀ {xs : List (List Ky × PV)} {vs : List (List Key × V)}, RLt K F ρ (xs.map fun kv => (kv.1, LV.pv kv.2)) vs ↔ RPt K F xs vs
  | [], vs => by simp [RLt, RPt]
  | (k, x) :: xs, vs => by
    simp only [List.map_cons, RLt, RPt, RL]
    constructor
    · rintro ⟨v, r, e1, e2, e3, e4⟩
      exact ⟨v, r, e1, e2, e3, RLt_pv.mp e4⟩
    · rintro ⟨v, r, e1, e2, e3, e4⟩
      exact ⟨v, r, e1, e2, e3, RLt_pv.mpr e4⟩
theorem RL_mkTup {vs : List LV} {ws : List V} {a : Addr} (h : RLs K F ρ vs ws) (ha : F a = some (.tup ws)) : RL K F ρ (mkTup vs) (.ref a) := by
  unfold mkTup
  cases e : unpv vs with
  | none =>
    simp only [RL]
    exact ⟨a, ws, rfl, ha, h⟩
  | some ps =>
    simp only [RL, RP]
    rw [unpv_eq e] at h
    exact ⟨a, ws, rfl, ha, RLs_pv.mp h⟩
end

/-! ### the heap -/
section
variable (K : PySem.W.Frag) (F : Hp) (ρ : List Addr) (cad : Nat → Addr) (fnm : Nat → Str) (H : Hp)
def CR (a : Addr) : Cell → Prop
  | .lst live xs => ∃ vs, H a = some (.lst vs) ∧ RLs K F ρ xs vs ∧ (live = true → F a = none) ∧ (live = false → F a = some (.lst vs))
  | .dk live kvs => ∃ ks, H a = some (.dK ks) ∧ RLk K F ρ kvs ks ∧ (live = true → F a = none) ∧ (live = false → F a = some (.dK ks))
  | .dt live kvs => ∃ ks, H a = some (.dT ks) ∧ RLt K F ρ kvs ks ∧ (live = true → F a = none) ∧ (live = false → F a = some (.dT ks))
  | .ins C fs => ∃ dx vs, H a = some (.ins (cad C) dx ((fs.map fun f => fnm f.1).zip vs)) ∧ RLs K F ρ (fs.map (·.2)) vs ∧ F a = none
structure HR (st : Store) : Prop where
  sub : Sub F H
  len : ρ.length = st.length
  nd : ρ.Nodup
  cell : ∀ (n : Nat) (a : Addr) (c : Cell), ρ[n]? = some a → st[n]? = some c → CR K F ρ cad fnm H a c
end
/-- what may have come to pass -/
structure G (F : Hp) (ρ : List Addr) (H : Hp) (F' : Hp) (ρ' : List Addr) (H' : Hp) : Prop where
  sub : Sub F F'
  pre : Pre ρ ρ'
  keep : ∀ b o, H b = some o → b ∉ ρ → H' b = some o
  new : ∀ b o, F' b = some o → F b = some o ∨ H b = none ∨ b ∈ ρ
  newρ : ∀ b, b ∈ ρ' → b ∈ ρ ∨ H b = none
  hold : ∀ b, H b ≠ none → H' b ≠ none
theorem G.refl (F : Hp) (ρ : List Addr) (H : Hp) : G F ρ H F ρ H := ⟨Sub.refl F, Pre.refl ρ, fun _ _ h _ => h, fun _ _ h => .inl h, fun _ h => .inl h, fun _ h => h⟩
theorem G.trans {F F' F'' H H' H'' : Hp} {ρ ρ' ρ'' : List Addr} (a : G F ρ H F' ρ' H') (b : G F' ρ' H' F'' ρ'' H'') : G F ρ H F'' ρ'' H'' where
  sub := a.sub.trans b.sub
  pre := a.pre.trans b.pre
  keep := fun c o h n => b.keep c o (a.keep c o h n) fun m => by
    rcases a.newρ c m with z | z
    · exact n z
    · rw [h] at z; cases z
  new := fun c o h => by
    rcases b.new c o h with z | z | z
    · exact a.new c o z
    · cases q : H c with
      | none => exact .inr (.inl rfl)
      | some u => exact absurd z (a.hold c (by simp [q]))
    · rcases a.newρ c z with y | y
      · exact .inr (.inr y)
      · exact .inr (.inl y)
  newρ := fun c h => by
    rcases b.newρ c h with z | z
    · exact a.newρ c z
    · cases q : H c with
      | none => exact .inr rfl
      | some u => exact absurd z (a.hold c (by simp [q]))
  hold := fun c h => b.hold c (a.hold c h)
end Z
end

section
/-! ZE: readings, the heap's steps, operators on trees. -/
namespace Z
open PySem L2
/-- where classes stand, what fields are called -/
structure Nm where
  cad : Nat → Addr
  ead : Nat → Addr
  fnm : Nat → Str
  /-- the error that the except clause around names: its slot, its object, its class, its dict -/
  cur : Option (Nat × Addr × Value × Option Addr) := none
/-- an error's class and fields, its dict in F -/
def RF (M : Nm) (K : PySem.W.Frag) (F : Hp) (e : Ex) (cls : Value) (d : Option Addr) : Prop :=
  cls = .ref (M.ead e.cls) ∧ ((e.fs = [] ∧ d = none) ∨ ∃ dd vs, d = some dd ∧ F dd = some (.xd ((e.fs.map fun f => M.fnm f.1).zip vs)) ∧ RPs K F (e.fs.map (·.2)) vs)
/-- what a slot holds -/
def RS (M : Nm) (K : PySem.W.Frag) (F : Hp) (ρ : List Addr) (i : Nat) : LV → V → Prop
  | .exn e, v => ∃ a cls d, M.cur = some (i, a, cls, d) ∧ v = .ref a ∧ RF M K F e cls d
  | x, v => RL K F ρ x v
def SL (M : Nm) (K : PySem.W.Frag) (F : Hp) (ρ : List Addr) (σ : St) (φ : Slots) : Prop :=
  φ.length = σ.length ∧ ∀ (i : Nat) (x : LV), φ[i]? = some (some x) → ∃ v, σ[i]? = some (some v) ∧ RS M K F ρ i x v
/-- an error in the air; its dict will not change any more -/
def RX (M : Nm) (K : PySem.W.Frag) (F H : Hp) (e : Ex) (cls : Value) (d : Option Addr) : Prop := RF M K F e cls d
section
variable {K : PySem.W.Frag} {F F' H H' : Hp} {ρ ρ' : List Addr} {σ : St} {φ : Slots} {st : Store} {M : Nm}
abbrev HR' (M : Nm) (K : PySem.W.Frag) (F : Hp) (ρ : List Addr) (H : Hp) (st : Store) : Prop := HR K F ρ M.cad M.fnm H st
theorem RF.mono {e : Ex} {cls : Value} {d : Option Addr} (h : RF M K F e cls d) (s : Sub F F') : RF M K F' e cls d := by
  obtain ⟨h1, h2⟩ := h
  refine ⟨h1, h2.imp id fun ⟨dd, vs, e1, e2, e3⟩ => ⟨dd, vs, e1, s _ _ e2, RPs.mono s _ _ e3⟩⟩
theorem RS.of {i : Nat} {x : LV} {v : V} (h : RL K F ρ x v) : RS M K F ρ i x v := by
  cases x with
  | exn e => simp only [RL] at h
  | _ => exact h
theorem RS.rl {i : Nat} {x : LV} {v : V} (h : RS M K F ρ i x v) (hx : ∀ e, x ≠ .exn e) : RL K F ρ x v := by
  cases x with
  | exn e => exact absurd rfl (hx e)
  | _ => exact h
theorem RS.mono {i : Nat} {x : LV} {v : V} (h : RS M K F ρ i x v) (e : Sub F F') (q : Pre ρ ρ') : RS M K F' ρ' i x v := by
  cases x with
  | exn y =>
    obtain ⟨a, cls, d, h1, h2, h3⟩ := h
    exact ⟨a, cls, d, h1, h2, h3.mono e⟩
  | pv p => exact RL.mono (K := K) e q (.pv p) v h
  | ref n => exact RL.mono (K := K) e q (.ref n) v h
  | tup xs => exact RL.mono (K := K) e q (.tup xs) v h
theorem SL.mono (h : SL M K F ρ σ φ) (e : Sub F F') (q : Pre ρ ρ') : SL M K F' ρ' σ φ := ⟨h.1, fun i x hx => by
  obtain ⟨v, h1, h2⟩ := h.2 i x hx
  exact ⟨v, h1, h2.mono e q⟩⟩
theorem SL.g (h : SL M K F ρ σ φ) (g : G F ρ H F' ρ' H') : SL M K F' ρ' σ φ := h.mono g.sub g.pre
theorem SL.set {x : LV} {v : V} (h : SL M K F ρ σ φ) (i : Nat) (r : RL K F ρ x v) : SL M K F ρ (σ.set i (some v)) (φ.set i (some x)) := by
  refine ⟨by simp [h.1], fun j y hy => ?_⟩
  by_cases hj : i = j
  · subst hj
    by_cases hl : i < φ.length
    · rw [List.getElem?_set_self hl] at hy
      cases hy
      exact ⟨v, List.getElem?_set_self (by rw [← h.1]; exact hl), .of r⟩
    · rw [List.getElem?_eq_none (by simpa using Nat.le_of_not_lt hl)] at hy
      cases hy
  · rw [List.getElem?_set_ne hj] at hy ⊢
    exact h.2 j y hy
theorem CR.mono {a : Addr} {c : Cell} (h : CR K F ρ M.cad M.fnm H a c) (e : Sub F F') (q : Pre ρ ρ') (hH : ∀ o, H a = some o → H' a = some o) (hF : F a = none → F' a = none) : CR K F' ρ' M.cad M.fnm H' a c := by
  cases c with
  | lst live xs =>
    obtain ⟨vs, h1, h2, h3, h4⟩ := h
    exact ⟨vs, hH _ h1, RLs.mono e q _ _ h2, fun z => hF (h3 z), fun z => e _ _ (h4 z)⟩
  | dk live xs =>
    obtain ⟨vs, h1, h2, h3, h4⟩ := h
    exact ⟨vs, hH _ h1, RLk.mono e q h2, fun z => hF (h3 z), fun z => e _ _ (h4 z)⟩
  | dt live xs =>
    obtain ⟨vs, h1, h2, h3, h4⟩ := h
    exact ⟨vs, hH _ h1, RLt.mono e q h2, fun z => hF (h3 z), fun z => e _ _ (h4 z)⟩
  | ins C fs =>
    obtain ⟨dx, vs, h1, h2, h3⟩ := h
    exact ⟨dx, vs, hH _ h1, RLs.mono e q _ _ h2, hF h3⟩
theorem CR.there {a : Addr} {c : Cell} (h : CR K F ρ M.cad M.fnm H a c) : ∃ o, H a = some o := by
  cases c with
  | lst live xs => obtain ⟨vs, h1, _⟩ := h; exact ⟨_, h1⟩
  | dk live xs => obtain ⟨vs, h1, _⟩ := h; exact ⟨_, h1⟩
  | dt live xs => obtain ⟨vs, h1, _⟩ := h; exact ⟨_, h1⟩
  | ins C fs => obtain ⟨dx, vs, h1, _⟩ := h; exact ⟨_, h1⟩
theorem HR.at (h : HR' M K F ρ H st) {n : Nat} {a : Addr} (e : ρ[n]? = some a) : ∃ c, st[n]? = some c ∧ CR K F ρ M.cad M.fnm H a c := by
  have hn : n < st.length := by
    rw [← h.len]
    exact (List.getElem?_eq_some_iff.mp e).1
  exact ⟨st[n], List.getElem?_eq_getElem hn, h.cell n a _ e (List.getElem?_eq_getElem hn)⟩
theorem HR.in (h : HR' M K F ρ H st) {a : Addr} (e : a ∈ ρ) : ∃ o, H a = some o := by
  obtain ⟨n, hn, en⟩ := List.mem_iff_getElem.mp e
  obtain ⟨c, _, hc⟩ := h.at (n := n) (a := a) (by rw [List.getElem?_eq_getElem hn, en])
  exact hc.there
theorem HR.fresh (h : HR' M K F ρ H st) {p : Addr} (np : H p = none) : F p = none := by
  cases e : F p with
  | none => rfl
  | some o => rw [h.sub p o e] at np; cases np
theorem HR.notin (h : HR' M K F ρ H st) {p : Addr} (np : H p = none) : p ∉ ρ := fun e => by
  obtain ⟨o, ho⟩ := h.in e
  rw [ho] at np; cases np
theorem sub_upd {p : Addr} {o : HO} (np : F p = none) : Sub F (upd F p o) := fun b u e => by rw [upd_ne (ne_of_none e np)]; exact e
theorem sub_upd2 {p : Addr} {o : HO} (s : Sub F H) : Sub (upd F p o) (upd H p o) := fun b u e => by
  by_cases hb : b = p
  · subst hb; rw [upd_same] at e ⊢; exact e
  · rw [upd_ne hb] at e ⊢; exact s b u e
/-- a new object that nothing will change -/
theorem HR.new (h : HR' M K F ρ H st) {p : Addr} (np : H p = none) (o : HO) : G F ρ H (upd F p o) ρ (upd H p o) ∧ HR' M K (upd F p o) ρ (upd H p o) st := by
  have nF := h.fresh np
  refine ⟨⟨sub_upd nF, Pre.refl ρ, fun b u e _ => by rw [upd_ne (ne_of_none e np)]; exact e, fun b u e => ?_, fun b hb => .inl hb, fun b hb => ?_⟩,
    ⟨sub_upd2 h.sub, h.len, h.nd, fun n a c e1 e2 => ?_⟩⟩
  · by_cases hb : b = p
    · exact .inr (.inl (by rw [hb]; exact np))
    · rw [upd_ne hb] at e; exact .inl e
  · by_cases hp : b = p
    · rw [hp, upd_same]; simp
    · rw [upd_ne hp]; exact hb
  · have hc := h.cell n a c e1 e2
    obtain ⟨u, hu⟩ := hc.there
    have hne : a ≠ p := ne_of_none hu np
    exact hc.mono (sub_upd nF) (Pre.refl ρ) (fun u e => by rw [upd_ne hne]; exact e) fun e => by rw [upd_ne hne]; exact e
/-- a new object that only the heap knows of -/
theorem HR.laid (h : HR' M K F ρ H st) {p : Addr} (np : H p = none) (o : HO) : G F ρ H F ρ (upd H p o) ∧ HR' M K F ρ (upd H p o) st := by
  have nF := h.fresh np
  refine ⟨⟨Sub.refl F, Pre.refl ρ, fun b u e _ => by rw [upd_ne (ne_of_none e np)]; exact e, fun b u e => .inl e, fun b hb => .inl hb, fun b hb => ?_⟩,
    ⟨fun b u e => by rw [upd_ne (ne_of_none e nF)]; exact h.sub b u e, h.len, h.nd, fun n a c e1 e2 => ?_⟩⟩
  · by_cases hp : b = p
    · rw [hp, upd_same]; simp
    · rw [upd_ne hp]; exact hb
  · have hc := h.cell n a c e1 e2
    obtain ⟨u, hu⟩ := hc.there
    have hne : a ≠ p := ne_of_none hu np
    exact hc.mono (Sub.refl F) (Pre.refl ρ) (fun u e => by rw [upd_ne hne]; exact e) fun e => e
/-- a new cell -/
theorem HR.cellN (h : HR' M K F ρ H st) {p : Addr} (np : H p = none) {o : HO} {c : Cell} (hc : CR K F (ρ ++ [p]) M.cad M.fnm (upd H p o) p c) : G F ρ H F (ρ ++ [p]) (upd H p o) ∧ HR' M K F (ρ ++ [p]) (upd H p o) (st ++ [c]) := by
  have nF := h.fresh np
  have nρ := h.notin np
  refine ⟨⟨Sub.refl F, Pre.snoc ρ p, fun b u e _ => by rw [upd_ne (ne_of_none e np)]; exact e, fun b u e => .inl e, fun b hb => ?_, fun b hb => ?_⟩,
    ⟨fun b u e => by rw [upd_ne (ne_of_none e nF)]; exact h.sub b u e, by rw [List.length_append, List.length_append, h.len]; rfl, ?_, fun n a c' e1 e2 => ?_⟩⟩
  · rcases List.mem_append.mp hb with z | z
    · exact .inl z
    · have : b = p := by simpa using z
      subst this
      exact .inr np
  · by_cases hp : b = p
    · rw [hp, upd_same]; simp
    · rw [upd_ne hp]; exact hb
  · exact List.nodup_append.mpr ⟨h.nd, by simp, fun x hx y hy e => nρ (by
      have : y = p := by simpa using hy
      rw [← this, ← e]; exact hx)⟩
  · by_cases hn : n < ρ.length
    · rw [List.getElem?_append_left hn] at e1
      rw [List.getElem?_append_left (by rw [← h.len]; exact hn)] at e2
      have hc' := h.cell n a c' e1 e2
      obtain ⟨u, hu⟩ := hc'.there
      have hne : a ≠ p := ne_of_none hu np
      exact hc'.mono (Sub.refl F) (Pre.snoc ρ p) (fun u e => by rw [upd_ne hne]; exact e) fun e => e
    · have hn' : n = ρ.length := by
        have := (List.getElem?_eq_some_iff.mp e1).1
        rw [List.length_append] at this
        simp only [List.length_cons, List.length_nil] at this
        omega
      subst hn'
      rw [List.getElem?_append_right (Nat.le_refl _)] at e1
      rw [h.len, List.getElem?_append_right (Nat.le_refl _)] at e2
      simp only [Nat.sub_self, List.getElem?_cons_zero, Option.some.injEq] at e1 e2
      subst e1 e2
      exact hc
/-- a cell is written -/
theorem HR.write (h : HR' M K F ρ H st) {n : Nat} {a : Addr} (ea : ρ[n]? = some a) (hF : F a = none) {o : HO} {c : Cell} (hc : CR K F ρ M.cad M.fnm (upd H a o) a c) : G F ρ H F ρ (upd H a o) ∧ HR' M K F ρ (upd H a o) (st.set n c) := by
  have ha : a ∈ ρ := List.mem_of_getElem? ea
  refine ⟨⟨Sub.refl F, Pre.refl ρ, fun b u e hb => by rw [upd_ne (fun z => hb (by rw [z]; exact ha))]; exact e, fun b u e => .inl e, fun b hb => .inl hb, fun b hb => ?_⟩,
    ⟨fun b u e => by rw [upd_ne (ne_of_none e hF)]; exact h.sub b u e, by rw [List.length_set]; exact h.len, h.nd, fun m b c' e1 e2 => ?_⟩⟩
  · by_cases hp : b = a
    · rw [hp, upd_same]; simp
    · rw [upd_ne hp]; exact hb
  · by_cases hm : n = m
    · subst hm
      rw [ea] at e1
      cases e1
      rw [List.getElem?_set_self (by rw [← h.len]; exact (List.getElem?_eq_some_iff.mp ea).1)] at e2
      cases e2
      exact hc
    · rw [List.getElem?_set_ne hm] at e2
      have hc' := h.cell m b c' e1 e2
      have hne : b ≠ a := fun z => hm (by
        subst z
        obtain ⟨l1, x1⟩ := List.getElem?_eq_some_iff.mp ea
        obtain ⟨l2, x2⟩ := List.getElem?_eq_some_iff.mp e1
        exact (List.getElem_inj h.nd).mp (x1.trans x2.symm))
      exact hc'.mono (Sub.refl F) (Pre.refl ρ) (fun u e => by rw [upd_ne hne]; exact e) fun e => e
/-- a cell is frozen -/
theorem HR.froze (h : HR' M K F ρ H st) {n : Nat} {a : Addr} (ea : ρ[n]? = some a) {o : HO} (hH : H a = some o) {c : Cell} (hF : F a = none ∨ F a = some o) (hc : CR K (upd F a o) ρ M.cad M.fnm H a c) :
    G F ρ H (upd F a o) ρ H ∧ HR' M K (upd F a o) ρ H (st.set n c) := by
  have ha : a ∈ ρ := List.mem_of_getElem? ea
  have hs : Sub F (upd F a o) := fun b u e => by
    by_cases hb : b = a
    · subst hb
      rcases hF with z | z
      · rw [z] at e; cases e
      · rw [z] at e; rw [upd_same]; exact e
    · rw [upd_ne hb]; exact e
  refine ⟨⟨hs, Pre.refl ρ, fun b u e _ => e, fun b u e => ?_, fun b hb => .inl hb, fun b hb => hb⟩,
    ⟨fun b u e => ?_, by rw [List.length_set]; exact h.len, h.nd, fun m b c' e1 e2 => ?_⟩⟩
  · by_cases hb : b = a
    · exact .inr (.inr (by rw [hb]; exact ha))
    · rw [upd_ne hb] at e; exact .inl e
  · by_cases hb : b = a
    · subst hb
      rw [upd_same] at e
      rw [← e]; exact hH
    · rw [upd_ne hb] at e; exact h.sub b u e
  · by_cases hm : n = m
    · subst hm
      rw [ea] at e1
      cases e1
      rw [List.getElem?_set_self (by rw [← h.len]; exact (List.getElem?_eq_some_iff.mp ea).1)] at e2
      cases e2
      exact hc
    · rw [List.getElem?_set_ne hm] at e2
      have hc' := h.cell m b c' e1 e2
      have hne : b ≠ a := fun z => hm (by
        subst z
        obtain ⟨l1, x1⟩ := List.getElem?_eq_some_iff.mp ea
        obtain ⟨l2, x2⟩ := List.getElem?_eq_some_iff.mp e1
        exact (List.getElem_inj h.nd).mp (x1.trans x2.symm))
      exact hc'.mono hs (Pre.refl ρ) (fun u e => e) fun e => by rw [upd_ne hne]; exact e

/-! ### what is seen of a name now -/
def PK (K : PySem.W.Frag) (F H : Hp) : PV → V → Prop
  | .lst xs, v => ∃ a vs, v = .ref a ∧ H a = some (.lst vs) ∧ RPs K F xs vs
  | .dk kvs, v => ∃ a ks, v = .ref a ∧ H a = some (.dK ks) ∧ RPk K F kvs ks
  | .dt kvs, v => ∃ a ks, v = .ref a ∧ H a = some (.dT ks) ∧ RPt K F kvs ks
  | p, v => RP K F p v
theorem PK.of (s : Sub F H) : ∀ {p : PV} {v : V}, RP K F p v → PK K F H p v
  | .lst xs, v, h => by
    simp only [RP] at h
    obtain ⟨a, vs, e1, e2, e3⟩ := h
    exact ⟨a, vs, e1, s _ _ e2, e3⟩
  | .dk xs, v, h => by
    simp only [RP] at h
    obtain ⟨a, vs, e1, e2, e3⟩ := h
    exact ⟨a, vs, e1, s _ _ e2, e3⟩
  | .dt xs, v, h => by
    simp only [RP] at h
    obtain ⟨a, vs, e1, e2, e3⟩ := h
    exact ⟨a, vs, e1, s _ _ e2, e3⟩
  | .non, _, h => h
  | .bl _, _, h => h
  | .int _, _, h => h
  | .str _, _, h => h
  | .tup _, _, h => h
  | .scr _, _, h => h
theorem peek_ok (h : HR' M K F ρ H st) : ∀ {x : LV} {v : V} {p : PV}, RL K F ρ x v → peek st x = some p → PK K F H p v
  | .pv q, v, p, r, e => by
    simp only [peek, Option.some.injEq] at e
    subst e
    simp only [RL] at r
    exact PK.of h.sub r
  | .ref n, v, p, r, e => by
    simp only [RL] at r
    obtain ⟨a, ev, ea⟩ := r
    obtain ⟨c, ec, hc⟩ := h.at ea
    unfold peek at e
    simp only [ec] at e
    cases c with
    | lst live xs =>
      obtain ⟨vs, h1, h2, _⟩ := hc
      simp only [Option.map_eq_some_iff] at e
      obtain ⟨ps, e1, e2⟩ := e
      subst e2
      rw [unpv_eq e1] at h2
      exact ⟨a, vs, ev, h1, RLs_pv.mp h2⟩
    | dk live xs =>
      obtain ⟨vs, h1, h2, _⟩ := hc
      simp only [Option.map_eq_some_iff] at e
      obtain ⟨ps, e1, e2⟩ := e
      subst e2
      rw [unpvK_eq e1] at h2
      exact ⟨a, vs, ev, h1, RLk_pv.mp h2⟩
    | dt live xs =>
      obtain ⟨vs, h1, h2, _⟩ := hc
      simp only [Option.map_eq_some_iff] at e
      obtain ⟨ps, e1, e2⟩ := e
      subst e2
      rw [unpvK_eq e1] at h2
      exact ⟨a, vs, ev, h1, RLt_pv.mp h2⟩
    | ins C fs => cases e
  | .tup xs, _, _, _, e => by simp [peek] at e
  | .exn _, _, _, _, e => by simp [peek] at e
end
end Z
end

section
/-! ZF: readings. -/
namespace Z
open PySem L2
section
variable (M : Nm) (K : PySem.W.Frag) (W : WX)
def PostE (σ : St) (F : Hp) (ρ : List Addr) (H : Hp) (Q : VK) : ER → Prop
  | .ok x st => ∀ F' ρ' H' v, G F ρ H F' ρ' H' → HR' M K F' ρ' H' st → RL K F' ρ' x v → Q v H'
  | .ex e st => ∀ F' ρ' H' cls d, G F ρ H F' ρ' H' → HR' M K F' ρ' H' st → RX M K F' H' e cls d → W cls d σ H'
def PostA (σ : St) (F : Hp) (ρ : List Addr) (H : Hp) (Q : List V → Hp → Prop) : ERs → Prop
  | .ok xs st => ∀ F' ρ' H' vs, G F ρ H F' ρ' H' → HR' M K F' ρ' H' st → RLs K F' ρ' xs vs → Q vs H'
  | .ex e st => ∀ F' ρ' H' cls d, G F ρ H F' ρ' H' → HR' M K F' ρ' H' st → RX M K F' H' e cls d → W cls d σ H'
def PostT (σ : St) (F : Hp) (ρ : List Addr) (H : Hp) (Q : Bool → Hp → Prop) : ET → Prop
  | .ok b st => ∀ F' ρ' H', G F ρ H F' ρ' H' → HR' M K F' ρ' H' st → Q b H'
  | .ex e st => ∀ F' ρ' H' cls d, G F ρ H F' ρ' H' → HR' M K F' ρ' H' st → RX M K F' H' e cls d → W cls d σ H'
def PostS (F : Hp) (ρ : List Addr) (H : Hp) (D : Ends) : FR → Prop
  | .nx φ st => ∀ F' ρ' H' σ', G F ρ H F' ρ' H' → HR' M K F' ρ' H' st → SL M K F' ρ' σ' φ → D.nx σ' H'
  | .bk φ st => ∀ F' ρ' H' σ', G F ρ H F' ρ' H' → HR' M K F' ρ' H' st → SL M K F' ρ' σ' φ → D.bk σ' H'
  | .ct φ st => ∀ F' ρ' H' σ', G F ρ H F' ρ' H' → HR' M K F' ρ' H' st → SL M K F' ρ' σ' φ → D.ct σ' H'
  | .rt x st => ∀ F' ρ' H' v, G F ρ H F' ρ' H' → HR' M K F' ρ' H' st → RL K F' ρ' x v → D.rt v H'
  | .ex e φ st => ∀ F' ρ' H' σ' cls d, G F ρ H F' ρ' H' → HR' M K F' ρ' H' st → SL M K F' ρ' σ' φ → RX M K F' H' e cls d → W cls d σ' H'
def RdE (t : TE) (f : Slots → Store → Option ER) : Prop := ∀ σ H Q φ F ρ st r, HR' M K F ρ H st → SL M K F ρ σ φ → f φ st = some r → PostE M K W σ F ρ H Q r → t σ H Q
def RdA (t : TA) (f : Slots → Store → Option ERs) : Prop := ∀ σ H Q φ F ρ st r, HR' M K F ρ H st → SL M K F ρ σ φ → f φ st = some r → PostA M K W σ F ρ H Q r → t σ H Q
def RdT (t : TT) (f : Slots → Store → Option ET) : Prop := ∀ σ H Q φ F ρ st r, HR' M K F ρ H st → SL M K F ρ σ φ → f φ st = some r → PostT M K W σ F ρ H Q r → t σ H Q
def RdS (t : TS) (f : Slots → Store → Option FR) : Prop := ∀ D σ H φ F ρ st r, HR' M K F ρ H st → SL M K F ρ σ φ → f φ st = some r → PostS M K W F ρ H D r → t D σ H
/-- an operation on values -/
def RdV2 (r : R2) (g : LV → LV → Store → Option ER) : Prop := ∀ σ H Q F ρ st x y v w res, HR' M K F ρ H st → RL K F ρ x v → RL K F ρ y w → g x y st = some res → PostE M K W σ F ρ H Q res → r v w H Q
def RdV1 (r : V → Hp → VK → Prop) (g : LV → Store → Option ER) : Prop := ∀ σ H Q F ρ st x v res, HR' M K F ρ H st → RL K F ρ x v → g x st = some res → PostE M K W σ F ρ H Q res → r v H Q
def RdVs (r : List V → Hp → VK → Prop) (g : List LV → Store → Option ER) : Prop := ∀ σ H Q F ρ st xs vs res, HR' M K F ρ H st → RLs K F ρ xs vs → g xs st = some res → PostE M K W σ F ρ H Q res → r vs H Q
end
section
variable {M : Nm} {K : PySem.W.Frag} {W : WX} {σ : St} {F F' H H' : Hp} {ρ ρ' : List Addr} {st : Store}
theorem PostE.g {Q : VK} {r : ER} (p : PostE M K W σ F ρ H Q r) (g : G F ρ H F' ρ' H') : PostE M K W σ F' ρ' H' Q r := by
  cases r with
  | ok x st => exact fun F2 ρ2 H2 v g2 h2 r2 => p F2 ρ2 H2 v (g.trans g2) h2 r2
  | ex e st => exact fun F2 ρ2 H2 c d g2 h2 r2 => p F2 ρ2 H2 c d (g.trans g2) h2 r2
theorem PostA.g {Q : List V → Hp → Prop} {r : ERs} (p : PostA M K W σ F ρ H Q r) (g : G F ρ H F' ρ' H') : PostA M K W σ F' ρ' H' Q r := by
  cases r with
  | ok x st => exact fun F2 ρ2 H2 v g2 h2 r2 => p F2 ρ2 H2 v (g.trans g2) h2 r2
  | ex e st => exact fun F2 ρ2 H2 c d g2 h2 r2 => p F2 ρ2 H2 c d (g.trans g2) h2 r2
theorem PostT.g {Q : Bool → Hp → Prop} {r : ET} (p : PostT M K W σ F ρ H Q r) (g : G F ρ H F' ρ' H') : PostT M K W σ F' ρ' H' Q r := by
  cases r with
  | ok x st => exact fun F2 ρ2 H2 g2 h2 => p F2 ρ2 H2 (g.trans g2) h2
  | ex e st => exact fun F2 ρ2 H2 c d g2 h2 r2 => p F2 ρ2 H2 c d (g.trans g2) h2 r2
theorem PostS.g {D : Ends} {r : FR} (p : PostS M K W F ρ H D r) (g : G F ρ H F' ρ' H') : PostS M K W F' ρ' H' D r := by
  cases r with
  | nx φ st => exact fun F2 ρ2 H2 v g2 h2 r2 => p F2 ρ2 H2 v (g.trans g2) h2 r2
  | bk φ st => exact fun F2 ρ2 H2 v g2 h2 r2 => p F2 ρ2 H2 v (g.trans g2) h2 r2
  | ct φ st => exact fun F2 ρ2 H2 v g2 h2 r2 => p F2 ρ2 H2 v (g.trans g2) h2 r2
  | rt φ st => exact fun F2 ρ2 H2 v g2 h2 r2 => p F2 ρ2 H2 v (g.trans g2) h2 r2
  | ex e φ st => exact fun F2 ρ2 H2 v c d g2 h2 r2 x2 => p F2 ρ2 H2 v c d (g.trans g2) h2 r2 x2

/-! ### sequences -/
theorem RdE.bind {t : TE} {f : Slots → Store → Option ER} (h : RdE M K W t f) {φ : Slots} {g : LV → Store → Option ER} {r : ER} {Q U : VK} (hh : HR' M K F ρ H st) (hs : SL M K F ρ σ φ) (e : R.bind (f φ st) g = some r) (p : PostE M K W σ F ρ H Q r)
    (k : ∀ x st1 F1 ρ1 H1 v, g x st1 = some r → G F ρ H F1 ρ1 H1 → HR' M K F1 ρ1 H1 st1 → RL K F1 ρ1 x v → PostE M K W σ F1 ρ1 H1 Q r → U v H1) : t σ H U := by
  cases q : f φ st with
  | none => rw [q] at e; cases e
  | some a =>
    rw [q] at e
    cases a with
    | ok x st1 => exact h σ H U φ F ρ st _ hh hs q fun F1 ρ1 H1 v g1 h1 r1 => k x st1 F1 ρ1 H1 v e g1 h1 r1 (p.g g1)
    | ex x st1 =>
      have e' : r = .ex x st1 := (Option.some.inj e).symm
      subst e'
      exact h σ H U φ F ρ st _ hh hs q p
theorem RdE.bindT {t : TE} {f : Slots → Store → Option ER} (h : RdE M K W t f) {φ : Slots} {g : LV → Store → Option ET} {r : ET} {Q : Bool → Hp → Prop} {U : VK} (hh : HR' M K F ρ H st) (hs : SL M K F ρ σ φ) (e : R.bt (f φ st) g = some r) (p : PostT M K W σ F ρ H Q r)
    (k : ∀ x st1 F1 ρ1 H1 v, g x st1 = some r → G F ρ H F1 ρ1 H1 → HR' M K F1 ρ1 H1 st1 → RL K F1 ρ1 x v → PostT M K W σ F1 ρ1 H1 Q r → U v H1) : t σ H U := by
  cases q : f φ st with
  | none => rw [q] at e; cases e
  | some a =>
    rw [q] at e
    cases a with
    | ok x st1 => exact h σ H U φ F ρ st _ hh hs q fun F1 ρ1 H1 v g1 h1 r1 => k x st1 F1 ρ1 H1 v e g1 h1 r1 (p.g g1)
    | ex x st1 =>
      have e' : r = .ex x st1 := (Option.some.inj e).symm
      subst e'
      exact h σ H U φ F ρ st _ hh hs q p
theorem RdE.bindA {t : TE} {f : Slots → Store → Option ER} (h : RdE M K W t f) {φ : Slots} {g : LV → Store → Option ERs} {r : ERs} {Q : List V → Hp → Prop} {U : VK} (hh : HR' M K F ρ H st) (hs : SL M K F ρ σ φ) (e : R.bs (f φ st) g = some r) (p : PostA M K W σ F ρ H Q r)
    (k : ∀ x st1 F1 ρ1 H1 v, g x st1 = some r → G F ρ H F1 ρ1 H1 → HR' M K F1 ρ1 H1 st1 → RL K F1 ρ1 x v → PostA M K W σ F1 ρ1 H1 Q r → U v H1) : t σ H U := by
  cases q : f φ st with
  | none => rw [q] at e; cases e
  | some a =>
    rw [q] at e
    cases a with
    | ok x st1 => exact h σ H U φ F ρ st _ hh hs q fun F1 ρ1 H1 v g1 h1 r1 => k x st1 F1 ρ1 H1 v e g1 h1 r1 (p.g g1)
    | ex x st1 =>
      have e' : r = .ex x st1 := (Option.some.inj e).symm
      subst e'
      exact h σ H U φ F ρ st _ hh hs q p
theorem RdE.bindS {t : TE} {f : Slots → Store → Option ER} (h : RdE M K W t f) {φ : Slots} {g : LV → Store → Option FR} {r : FR} {D : Ends} {U : VK} (hh : HR' M K F ρ H st) (hs : SL M K F ρ σ φ) (e : R.bf φ (f φ st) g = some r) (p : PostS M K W F ρ H D r)
    (k : ∀ x st1 F1 ρ1 H1 v, g x st1 = some r → G F ρ H F1 ρ1 H1 → HR' M K F1 ρ1 H1 st1 → RL K F1 ρ1 x v → PostS M K W F1 ρ1 H1 D r → U v H1) : t σ H U := by
  cases q : f φ st with
  | none => rw [q] at e; cases e
  | some a =>
    rw [q] at e
    cases a with
    | ok x st1 => exact h σ H U φ F ρ st _ hh hs q fun F1 ρ1 H1 v g1 h1 r1 => k x st1 F1 ρ1 H1 v e g1 h1 r1 (p.g g1)
    | ex x st1 =>
      have e' : r = .ex x φ st1 := (Option.some.inj e).symm
      subst e'
      exact h σ H U φ F ρ st _ hh hs q fun F1 ρ1 H1 c d g1 h1 x1 => p F1 ρ1 H1 σ c d g1 h1 (hs.g g1) x1
theorem RdA.bind {t : TA} {f : Slots → Store → Option ERs} (h : RdA M K W t f) {φ : Slots} {g : List LV → Store → Option ER} {r : ER} {Q : VK} {U : List V → Hp → Prop} (hh : HR' M K F ρ H st) (hs : SL M K F ρ σ φ) (e : Rs.bind (f φ st) g = some r) (p : PostE M K W σ F ρ H Q r)
    (k : ∀ x st1 F1 ρ1 H1 v, g x st1 = some r → G F ρ H F1 ρ1 H1 → HR' M K F1 ρ1 H1 st1 → RLs K F1 ρ1 x v → PostE M K W σ F1 ρ1 H1 Q r → U v H1) : t σ H U := by
  cases q : f φ st with
  | none => rw [q] at e; cases e
  | some a =>
    rw [q] at e
    cases a with
    | ok x st1 => exact h σ H U φ F ρ st _ hh hs q fun F1 ρ1 H1 v g1 h1 r1 => k x st1 F1 ρ1 H1 v e g1 h1 r1 (p.g g1)
    | ex x st1 =>
      have e' : r = .ex x st1 := (Option.some.inj e).symm
      subst e'
      exact h σ H U φ F ρ st _ hh hs q p
theorem RdA.bindA {t : TA} {f : Slots → Store → Option ERs} (h : RdA M K W t f) {φ : Slots} {g : List LV → Store → Option ERs} {r : ERs} {Q U : List V → Hp → Prop} (hh : HR' M K F ρ H st) (hs : SL M K F ρ σ φ) (e : Rs.bs (f φ st) g = some r) (p : PostA M K W σ F ρ H Q r)
    (k : ∀ x st1 F1 ρ1 H1 v, g x st1 = some r → G F ρ H F1 ρ1 H1 → HR' M K F1 ρ1 H1 st1 → RLs K F1 ρ1 x v → PostA M K W σ F1 ρ1 H1 Q r → U v H1) : t σ H U := by
  cases q : f φ st with
  | none => rw [q] at e; cases e
  | some a =>
    rw [q] at e
    cases a with
    | ok x st1 => exact h σ H U φ F ρ st _ hh hs q fun F1 ρ1 H1 v g1 h1 r1 => k x st1 F1 ρ1 H1 v e g1 h1 r1 (p.g g1)
    | ex x st1 =>
      have e' : r = .ex x st1 := (Option.some.inj e).symm
      subst e'
      exact h σ H U φ F ρ st _ hh hs q p
theorem RdA.bindS {t : TA} {f : Slots → Store → Option ERs} (h : RdA M K W t f) {φ : Slots} {g : List LV → Store → Option FR} {r : FR} {D : Ends} {U : List V → Hp → Prop} (hh : HR' M K F ρ H st) (hs : SL M K F ρ σ φ) (e : Rs.bf φ (f φ st) g = some r) (p : PostS M K W F ρ H D r)
    (k : ∀ x st1 F1 ρ1 H1 v, g x st1 = some r → G F ρ H F1 ρ1 H1 → HR' M K F1 ρ1 H1 st1 → RLs K F1 ρ1 x v → PostS M K W F1 ρ1 H1 D r → U v H1) : t σ H U := by
  cases q : f φ st with
  | none => rw [q] at e; cases e
  | some a =>
    rw [q] at e
    cases a with
    | ok x st1 => exact h σ H U φ F ρ st _ hh hs q fun F1 ρ1 H1 v g1 h1 r1 => k x st1 F1 ρ1 H1 v e g1 h1 r1 (p.g g1)
    | ex x st1 =>
      have e' : r = .ex x φ st1 := (Option.some.inj e).symm
      subst e'
      exact h σ H U φ F ρ st _ hh hs q fun F1 ρ1 H1 c d g1 h1 x1 => p F1 ρ1 H1 σ c d g1 h1 (hs.g g1) x1
theorem RdT.bind {t : TT} {f : Slots → Store → Option ET} (h : RdT M K W t f) {φ : Slots} {g : Bool → Store → Option ER} {r : ER} {Q : VK} {U : Bool → Hp → Prop} (hh : HR' M K F ρ H st) (hs : SL M K F ρ σ φ) (e : T.bind (f φ st) g = some r) (p : PostE M K W σ F ρ H Q r)
    (k : ∀ x st1 F1 ρ1 H1, g x st1 = some r → G F ρ H F1 ρ1 H1 → HR' M K F1 ρ1 H1 st1 → PostE M K W σ F1 ρ1 H1 Q r → U x H1) : t σ H U := by
  cases q : f φ st with
  | none => rw [q] at e; cases e
  | some a =>
    rw [q] at e
    cases a with
    | ok x st1 => exact h σ H U φ F ρ st _ hh hs q fun F1 ρ1 H1 g1 h1 => k x st1 F1 ρ1 H1 e g1 h1 (p.g g1)
    | ex x st1 =>
      have e' : r = .ex x st1 := (Option.some.inj e).symm
      subst e'
      exact h σ H U φ F ρ st _ hh hs q p
theorem RdT.bindT {t : TT} {f : Slots → Store → Option ET} (h : RdT M K W t f) {φ : Slots} {g : Bool → Store → Option ET} {r : ET} {Q U : Bool → Hp → Prop} (hh : HR' M K F ρ H st) (hs : SL M K F ρ σ φ) (e : T.bt (f φ st) g = some r) (p : PostT M K W σ F ρ H Q r)
    (k : ∀ x st1 F1 ρ1 H1, g x st1 = some r → G F ρ H F1 ρ1 H1 → HR' M K F1 ρ1 H1 st1 → PostT M K W σ F1 ρ1 H1 Q r → U x H1) : t σ H U := by
  cases q : f φ st with
  | none => rw [q] at e; cases e
  | some a =>
    rw [q] at e
    cases a with
    | ok x st1 => exact h σ H U φ F ρ st _ hh hs q fun F1 ρ1 H1 g1 h1 => k x st1 F1 ρ1 H1 e g1 h1 (p.g g1)
    | ex x st1 =>
      have e' : r = .ex x st1 := (Option.some.inj e).symm
      subst e'
      exact h σ H U φ F ρ st _ hh hs q p
theorem RdT.bindS {t : TT} {f : Slots → Store → Option ET} (h : RdT M K W t f) {φ : Slots} {g : Bool → Store → Option FR} {r : FR} {D : Ends} {U : Bool → Hp → Prop} (hh : HR' M K F ρ H st) (hs : SL M K F ρ σ φ) (e : T.bf φ (f φ st) g = some r) (p : PostS M K W F ρ H D r)
    (k : ∀ x st1 F1 ρ1 H1, g x st1 = some r → G F ρ H F1 ρ1 H1 → HR' M K F1 ρ1 H1 st1 → PostS M K W F1 ρ1 H1 D r → U x H1) : t σ H U := by
  cases q : f φ st with
  | none => rw [q] at e; cases e
  | some a =>
    rw [q] at e
    cases a with
    | ok x st1 => exact h σ H U φ F ρ st _ hh hs q fun F1 ρ1 H1 g1 h1 => k x st1 F1 ρ1 H1 e g1 h1 (p.g g1)
    | ex x st1 =>
      have e' : r = .ex x φ st1 := (Option.some.inj e).symm
      subst e'
      exact h σ H U φ F ρ st _ hh hs q fun F1 ρ1 H1 c d g1 h1 x1 => p F1 ρ1 H1 σ c d g1 h1 (hs.g g1) x1
/-- a tree comes -/
theorem PostE.tree {Q : VK} {p : PV} {v : V} (q : PostE M K W σ F ρ H Q (.ok (.pv p) st)) (hh : HR' M K F ρ H st) (r : RP K F p v) : Q v H := q F ρ H v (G.refl F ρ H) hh (by simp only [RL]; exact r)
theorem PostE.here {Q : VK} {x : LV} {v : V} (q : PostE M K W σ F ρ H Q (.ok x st)) (hh : HR' M K F ρ H st) (r : RL K F ρ x v) : Q v H := q F ρ H v (G.refl F ρ H) hh r

theorem rd_op {ta tb : TE} {fa fb : Slots → Store → Option ER} {r : R2} {g : LV → LV → Store → Option ER} (ha : RdE M K W ta fa) (hb : RdE M K W tb fb) (hr : RdV2 M K W r g) :
    RdE M K W (tOp r ta tb) fun φ st => R.bind (fa φ st) fun x st => R.bind (fb φ st) fun y st => g x y st := by
  intro σ H Q φ F ρ st res hh hs e p
  refine ha.bind hh hs e p fun x st1 F1 ρ1 H1 v e1 g1 h1 r1 p1 => ?_
  refine hb.bind h1 (hs.g g1) e1 p1 fun y st2 F2 ρ2 H2 w e2 g2 h2 r2 p2 => ?_
  exact hr σ H2 Q F2 ρ2 st2 x y v w res h2 (RL.mono g2.sub g2.pre x v r1) r2 e2 p2
end
end Z
end

section
/-! ZG: the operators' rules of the layer, joined, and their readings. -/
namespace Z
open PySem PySem.Spec PyProof.Rows L2
theorem line_eq : sizeLine = line := by rw [sizeLine_eq]; rfl
section
variable {K : PySem.W.Frag} {F H : Hp}
mutual
theorem RP.dp (s : Sub F H) : ∀ (p : PV) (v : V), RP K F p v → eqOk p = true → Dp K H v (toD p) ∧ (toD p).canLay0 = true
  | .non, v, h, _ => by
    simp only [RP] at h; subst h
    exact ⟨by simp only [toD]; exact .non, by simp [toD, PyData.canLay0]⟩
  | .bl b, v, h, _ => by
    simp only [RP] at h; subst h
    exact ⟨by simp only [toD]; exact .bl b, by simp [toD, PyData.canLay0]⟩
  | .int i, v, h, _ => by
    simp only [RP] at h; subst h
    exact ⟨by simp only [toD]; exact .int i, by simp [toD, PyData.canLay0]⟩
  | .str x, v, h, _ => by
    simp only [RP] at h
    obtain ⟨h1, h2⟩ := h
    subst h1
    refine ⟨by simp only [toD]; exact .str _, ?_⟩
    simp only [toD, PyData.canLay0, PyData.strOk, mkS]
    simpa [okS] using h2
  | .tup xs, v, h, e => by
    simp only [RP] at h
    obtain ⟨a, vs, e1, e2, e3⟩ := h
    subst e1
    have q := RPs.dp s xs vs e3 (by simpa [eqOk] using e)
    exact ⟨by simp only [toD]; exact .tup (.inl (.inl (s _ _ e2))) q.1, by simp only [toD, PyData.canLay0]; exact q.2⟩
  | .lst xs, v, h, e => by
    simp only [RP] at h
    obtain ⟨a, vs, e1, e2, e3⟩ := h
    subst e1
    have q := RPs.dp s xs vs e3 (by simpa [eqOk] using e)
    exact ⟨by simp only [toD]; exact .lst (.inl (.inl (s _ _ e2))) q.1, by simp only [toD, PyData.canLay0]; exact q.2⟩
  | .dk _, _, _, e => by simp [eqOk] at e
  | .dt _, _, _, e => by simp [eqOk] at e
  | .scr _, _, _, e => by simp [eqOk] at e
theorem RPs.dp (s : Sub F H) : ∀ (ps : List PV) (vs : List V), RPs K F ps vs → eqOks ps = true → DpAll K H vs (toDs ps) ∧ PyData.canLayAll0 (toDs ps) = true
  | [], vs, h, _ => by
    simp only [RPs] at h; subst h
    exact ⟨by simp only [toDs]; exact .nil, by simp [toDs, PyData.canLayAll0]⟩
  | x :: xs, vs, h, e => by
    simp only [RPs] at h
    obtain ⟨v, r, e1, e2, e3⟩ := h
    subst e1
    simp only [eqOks, Bool.and_eq_true] at e
    have q1 := RP.dp s x v e2 e.1
    have q2 := RPs.dp s xs r e3 e.2
    exact ⟨by simp only [toDs]; exact .cons q1.1 q2.1, by simp only [toDs, PyData.canLayAll0, q1.2, q2.2, Bool.and_self]⟩
end
theorem PK.dp (s : Sub F H) {p : PV} {v : V} (h : PK K F H p v) (e : eqOk p = true) : Dp K H v (toD p) ∧ (toD p).canLay0 = true := by
  cases p with
  | lst xs =>
    obtain ⟨a, vs, e1, e2, e3⟩ := h
    subst e1
    have q := RPs.dp s xs vs e3 (by simpa [eqOk] using e)
    exact ⟨by simp only [toD]; exact .lst (.inl (.inl e2)) q.1, by simp only [toD, PyData.canLay0]; exact q.2⟩
  | dk _ => simp [eqOk] at e
  | dt _ => simp [eqOk] at e
  | scr _ => simp [eqOk] at e
  | non => exact RP.dp s _ _ h e
  | bl _ => exact RP.dp s _ _ h e
  | int _ => exact RP.dp s _ _ h e
  | str _ => exact RP.dp s _ _ h e
  | tup _ => exact RP.dp s _ _ h e
end
mutual
theorem depth_toD : ∀ p : PV, (toD p).depth = dep p
  | .non => by simp [toD, PyData.depth, dep]
  | .bl b => by simp [toD, PyData.depth, dep]
  | .int i => by simp [toD, PyData.depth, dep]
  | .str s => by simp [toD, PyData.depth, dep]
  | .tup xs => by simp only [toD, PyData.depth, dep, depth_toDs xs]; omega
  | .lst xs => by simp only [toD, PyData.depth, dep, depth_toDs xs]; omega
  | .dk _ => by simp [toD, PyData.depth, dep]
  | .dt _ => by simp [toD, PyData.depth, dep]
  | .scr _ => by simp [toD, PyData.depth, dep]
theorem depth_toDs : ∀ ps : List PV, PyData.depthAll (toDs ps) = deps ps
  | [] => by simp [toDs, PyData.depthAll, deps]
  | x :: xs => by simp only [toDs, PyData.depthAll, deps, depth_toD x, depth_toDs xs]
end
theorem mkS_beq (a b : Sg) : (mkS a == mkS b) = (a == b) := by
  by_cases h : a = b
  · subst h; simp
  · have : mkS a ≠ mkS b := fun e => h (mkS_inj e)
    rw [beq_eq_false_iff_ne.mpr h, beq_eq_false_iff_ne.mpr this]
mutual
theorem eqv_toD : ∀ p q : PV, eqOk p = true → eqOk q = true → PyData.eqv (toD p) (toD q) = eqP p q
  | .non, q, _, h => by cases q <;> simp [eqOk] at h <;> simp [toD, PyData.eqv, eqP]
  | .bl b, q, _, h => by cases q <;> simp [eqOk] at h <;> simp [toD, PyData.eqv, eqP]
  | .int i, q, _, h => by cases q <;> simp [eqOk] at h <;> simp [toD, PyData.eqv, eqP]
  | .str s, q, _, h => by cases q <;> simp [eqOk] at h <;> simp [toD, PyData.eqv, eqP, mkS_beq]
  | .tup xs, q, h0, h => by
    cases q <;> simp [eqOk] at h <;> simp only [toD, PyData.eqv, eqP]
    exact eqv_toDs xs _ (by simpa [eqOk] using h0) h
  | .lst xs, q, h0, h => by
    cases q <;> simp [eqOk] at h <;> simp only [toD, PyData.eqv, eqP]
    exact eqv_toDs xs _ (by simpa [eqOk] using h0) h
  | .dk _, _, h, _ => by simp [eqOk] at h
  | .dt _, _, h, _ => by simp [eqOk] at h
  | .scr _, _, h, _ => by simp [eqOk] at h
theorem eqv_toDs : ∀ ps qs : List PV, eqOks ps = true → eqOks qs = true → PyData.eqvAll (toDs ps) (toDs qs) = eqPs ps qs
  | [], [], _, _ => by simp [toDs, PyData.eqvAll, eqPs]
  | [], _ :: _, _, _ => by simp [toDs, PyData.eqvAll, eqPs]
  | _ :: _, [], _, _ => by simp [toDs, PyData.eqvAll, eqPs]
  | x :: xs, y :: ys, h, h' => by
    simp only [eqOks, Bool.and_eq_true] at h h'
    simp only [toDs, PyData.eqvAll, eqPs, eqv_toD x y h.1 h'.1, eqv_toDs xs ys h.2 h'.2]
end

/-! ### the layer's rules, joined -/
section
variable {X : Cx}
abbrev room2 (X : Cx) : Prop := X.A.units + 600 < cLine
def rEqZ (K : PySem.W.Frag) (neg : Bool) : R2 := fun x y H Q => ∃ d e, Dp K H x d ∧ Dp K H y e ∧ d.canLay0 = true ∧ e.canLay0 = true ∧ min d.depth e.depth ≤ maxDep ∧ Q (.bl (neg ^^ PyData.eqv d e)) H
theorem op_eqZ (hu : room2 X) : OpR X (compareOp .Eq) (rEqZ X.K false) := by
  intro pins s σ H x y v u Q I rx ry h
  obtain ⟨d, e, hd, he, sd, se, hm, q⟩ := h
  obtain ⟨as, r1⟩ := Dp.reads I d x v hd rx
  obtain ⟨bs, r2⟩ := Dp.reads I e y u he ry
  have hu' : X.A.units + min d.depth e.depth < cLine := by
    have h1 : X.A.units + 600 < cLine := hu
    have h2 : maxDep = 500 := rfl
    omega
  exact SeqAt.compareEq_reads r1 r2 sd se hu' ⟨.bl _, H, I, by simp [L2.RelV], q⟩
theorem op_neZ (hu : room2 X) : OpR X (compareOp .NotEq) (rEqZ X.K true) := by
  intro pins s σ H x y v u Q I rx ry h
  obtain ⟨d, e, hd, he, sd, se, hm, q⟩ := h
  obtain ⟨as, r1⟩ := Dp.reads I d x v hd rx
  obtain ⟨bs, r2⟩ := Dp.reads I e y u he ry
  have hu' : X.A.units + min d.depth e.depth < cLine := by
    have h1 : X.A.units + 600 < cLine := hu
    have h2 : maxDep = 500 := rfl
    omega
  exact SeqAt.compareNe_reads r1 r2 sd se hu' ⟨.bl _, H, I, by simp [L2.RelV], q⟩
theorem op_inD (hu : room2 X) : OpR X (compareOp .In) (fun y x H Q => ∃ a o, x = .ref a ∧ DGet H a y o ∧ Q (.bl o.isSome) H) := by
  intro pins s σ H y x v u Q I ry rx h
  obtain ⟨a, o, ex, g, q⟩ := h
  subst ex
  obtain rfl : u = Value.ref a := rx
  exact d_in (by have h1 : X.A.units + 600 < cLine := hu; omega) I g ry fun s3 I3 => ⟨.bl o.isSome, H, I3, rfl, q⟩
theorem op_ninD (hu : room2 X) : OpR X (compareOp .NotIn) (fun y x H Q => ∃ a o, x = .ref a ∧ DGet H a y o ∧ Q (.bl (!o.isSome)) H) := by
  intro pins s σ H y x v u Q I ry rx h
  obtain ⟨a, o, ex, g, q⟩ := h
  subst ex
  obtain rfl : u = Value.ref a := rx
  exact d_notIn (by have h1 : X.A.units + 600 < cLine := hu; omega) I g ry fun s3 I3 => ⟨.bl (!o.isSome), H, I3, rfl, q⟩
theorem ix_dict (hu : room2 X) : IxR X (fun x y H Q => ∃ a v, x = .ref a ∧ DGet H a y (some v) ∧ Q v H) := by
  intro value slice pins s σ H x y v u Q I rx ry h hs
  obtain ⟨a, z, ex, g, q⟩ := h
  subst ex
  obtain rfl : v = Value.ref a := rx
  have hT := dict_typeIs I g
  have h₂ : wpAny (model X.prog X.w) X.A (getItem (.ref a) u) (EP X pins σ Q) X.xe s := d_getItem (by have h1 : X.A.units + 600 < cLine := hu; omega) I g ry fun w' s3 I3 rw' => ⟨z, H, I3, rw', q⟩
  unfold subscriptTail
  refine wpAny_bind ?_
  rw [getitemInPython_of_ne hT.not_modules]
  refine wpAny_bind (wpAny_specialOf hT PySem.F.slot_dict_getitem.lookup ?_)
  have fin : wpAny (model X.prog X.w) X.A (subscripted slice false (.ref a) u) (fun r s₃ => wpAny (model X.prog X.w) X.A (letTemporaryGo value (.ref a) r >>= fun _ => pure r) (EP X pins σ Q) X.xe s₃) X.xe s := by
    rw [hs]
    exact wpAny_operating (wpAny_mono h₂ (fun r s₃ h₃ => wpAny_bind (wpAny_letTemporaryGo (wpAny_pure h₃))) fun _ _ x => x)
  first
    | exact wpAny_pure (wpAny_bind fin)
    | exact wpAny_bind (wpAny_pure (wpAny_bind fin))
    | exact wpAny_bind fin
def rIxD : R2 := fun x y H Q => ∃ a v, x = .ref a ∧ DGet H a y (some v) ∧ Q v H
def rIxZ (K : PySem.W.Frag) : R2 := fun x y H Q => rIxL K x y H Q ∨ rIxT K x y H Q ∨ rIxS x y H Q ∨ rIxD x y H Q
theorem ix_Z (hu : room2 X) : IxR X (rIxZ X.K) := ix_list.or (ix_tup.or (ix_str.or (ix_dict hu)))

section
open PySem.P
variable {X : Cx}
/-- a text, so many times -/
def repS (z : Str) (n : Int) : Str := ⟨((List.replicate n.toNat z.cps.toList).flatten).toArray⟩
theorem foldl_cps (n : Nat) (a b : Array Nat) : ((List.replicate n a).foldl (· ++ ·) b).toList = b.toList ++ (List.replicate n a.toList).flatten := by
  induction n generalizing b with
  | zero => simp
  | succ n ih =>
    rw [List.replicate_succ, List.foldl_cons, ih, List.replicate_succ, List.flatten_cons, Array.toList_append, List.append_assoc]
def rStrRep : R2 := fun x y H Q => ∃ (z : Str) (n : Int), x = .str z ∧ y = .int n ∧ -(2 ^ 30) < n ∧ n < 2 ^ 30 ∧ z.length * n.toNat ≤ sizeLine ∧ z.length ≤ sizeLine ∧ Q (.str (repS z n)) H
theorem op_rep_str : OpR X (binaryOp .Mult) rStrRep := by
  intro pins s σ H x y v u Q I rx ry h
  obtain ⟨z, n, rfl, rfl, h0, h1, hz, hz1, q⟩ := h
  obtain ⟨t, rfl⟩ := rx
  obtain ⟨t', rfl⟩ := ry
  have hline : sizeLine = 16777216 := rfl
  have b1 : decide (n < -(2 ^ 63 : Int)) = false := decide_eq_false (by omega)
  have b2 : decide (n ≥ (2 ^ 63 : Int)) = false := decide_eq_false (by omega)
  refine PySem.P.mul_str (by rw [b1, b2]; rfl) (fun hn _ => ?_) (fun hn _ => ?_) ?_
  · have hn' : 0 < n := by omega
    have : (2 : Int) ^ 32 ≤ (2 ^ 63 - 1) / n := by
      rw [Int.le_ediv_iff_mul_le hn']
      have : (2 : Int) ^ 32 * n ≤ 2 ^ 32 * 2 ^ 30 := Int.mul_le_mul_of_nonneg_left (by omega) (by decide)
      omega
    omega
  · unfold Builtin.Str.tooLong
    exact decide_eq_false (by omega)
  · have hr : (repS z n).length ≤ sizeLine := by
      show ((List.replicate n.toNat z.cps.toList).flatten).toArray.size ≤ _
      rw [List.size_toArray, List.length_flatten, List.map_replicate, List.sum_replicate_nat, Nat.mul_comm, Array.length_toList]
      exact hz
    by_cases hn : n < 1
    · rw [if_pos hn]
      have e : repS z n = Str.empty := by
        unfold repS
        rw [show n.toNat = 0 by omega]; rfl
      rw [e] at q hr
      exact ⟨hr, .str _, H, I.tok _, ⟨_, rfl⟩, q⟩
    · rw [if_neg hn]
      by_cases h2 : (n == 1 || z.length == 0) = true
      · rw [if_pos h2]
        have e : repS z n = z := by
          unfold repS
          simp only [Bool.or_eq_true, beq_iff_eq] at h2
          rcases h2 with h2 | h2
          · subst h2
            simp
          · have hc : z.cps = #[] := Array.eq_empty_of_size_eq_zero h2
            obtain ⟨c⟩ := z
            simp only at hc
            subst hc
            simp
        rw [e] at q
        exact ⟨.str z, H, I, ⟨t, rfl⟩, q⟩
      · rw [if_neg h2]
        have e : (⟨(List.replicate n.toNat z.cps).foldl (· ++ ·) #[]⟩ : Str) = repS z n := by
          unfold repS
          congr 1
          apply Array.toList_inj.mp
          rw [foldl_cps]
          simp
        rw [e]
        exact ⟨hr, .str _, H, I.tok _, ⟨_, rfl⟩, q⟩
/-! ### a short text turned round -/
def revS (z : Str) : Str := ⟨z.cps.toList.reverse.toArray⟩
def tRevS (te : TE) : TE := fun σ H Q => te σ H fun x H1 => ∃ z : Str, x = .str z ∧ z.length ≤ 2 ∧ Q (.str (revS z)) H1
theorem rev_two (z : Str) (h : z.length ≤ 2) : (⟨((Builtin.Str.strSliceIndices none none (-1) z.length).filterMap (z.cps[·]?)).toArray⟩ : Str) = revS z := by
  obtain ⟨⟨l⟩⟩ := z
  have h' : l.length ≤ 2 := h
  match l, h' with
  | [], _ => rfl
  | [a], _ =>
    have e : Builtin.Str.strSliceIndices none none (-1) 1 = [0] := by decide +kernel
    show (⟨((Builtin.Str.strSliceIndices none none (-1) 1).filterMap _).toArray⟩ : Str) = _
    rw [e]; rfl
  | [a, b], _ =>
    have e : Builtin.Str.strSliceIndices none none (-1) 2 = [1, 0] := by decide +kernel
    show (⟨((Builtin.Str.strSliceIndices none none (-1) 2).filterMap _).toArray⟩ : Str) = _
    rw [e]; rfl
theorem pe_revS {e : Expr} {te : TE} {k : Nat} {p1 p2 p3 pos : Pos} (he : PE X e te) : PE X (.Subscript e (.Slice none none (some (.UnaryOp .USub (.Constant (.int 1) k p1) p2)) p3) pos) (tRevS te) := by
  refine ⟨fun pins s σ H Q I h => ?_⟩
  refine Subscript_ (thn (he.run pins s σ H _ I h) fun v s1 ⟨x, H1, I1, r1, q1⟩ => ?_)
  obtain ⟨z, rfl, hz, q⟩ := q1
  obtain ⟨t, rfl⟩ := r1
  have hst : PO X (some (.UnaryOp .USub (.Constant (.int 1) k p1) p2)) (tPart (tUn (rU fun i => .int (-i)) (tC (.int 1)))) := po_some (pe_un un_neg pe_int)
  refine wpAny_Slice (thn (po_none.run pins s1 σ H1 (fun o H2 => o = none ∧ H2 = H1) I1 ⟨rfl, rfl⟩) fun vl s2 ⟨l, H2, I2, pl, el, e2⟩ => ?_)
  subst el e2
  refine thn (po_none.run pins s2 σ H2 (fun o H3 => o = none ∧ H3 = H2) I2 ⟨rfl, rfl⟩) fun vu s3 ⟨u, H3, I3, pu, eu, e3⟩ => ?_
  subst eu e3
  refine thn (hst.run pins s3 σ H3 (fun o H4 => o = some (-1) ∧ H4 = H3) I3 ⟨1, rfl, -1, rfl, rfl, rfl⟩) fun vs s4 ⟨o, H4, I4, ps, eo, e4⟩ => ?_
  subst eo e4
  have I5 : Inv X pins σ H4 { s4 with heap := s4.heap.push { cls := .type "slice", data := .fields #[vl, vu, vs] } } := I4.kept (t' := s4.toks) fun b ob q => Heap.get?_push_of_some _ q
  obtain ⟨l', rfl, el1⟩ := IsPart.raw pl
  obtain ⟨u', rfl, eu1⟩ := IsPart.raw pu
  obtain ⟨s', rfl, es1⟩ := IsPart.raw ps
  show wpAny (model X.prog X.w) X.A (subscriptTail e (.Slice none none (some (.UnaryOp .USub (.Constant (.int 1) k p1) p2)) p3) (.str z t) (.ref s4.heap.objs.size)) (EP X pins σ Q) X.xe { s4 with heap := s4.heap.push { cls := .type "slice", data := .fields #[partValue l', partValue u', partValue s'] } }
  refine tail_any (ops := [.str z t, .ref s4.heap.objs.size]) (T := "str") (typeIs_str _ _ _) F.slot_str_getitem.lookup ?_ (by with_unfolding_all rfl)
  refine wpAny_getItem_str_slice (l := l') (u := u') (st := s') ⟨_, Heap.get?_push_size _ rfl, rfl, rfl⟩ (by rw [es1]; decide) ?_
  show Made.post (if (((s'.map (·.1)).getD 1 == 1 && (Builtin.Str.strSliceIndices (l'.map (·.1)) (u'.map (·.1)) ((s'.map (·.1)).getD 1) z.length).length == z.length) = true) then Made.val (.str z t)
    else Made.str ⟨((Builtin.Str.strSliceIndices (l'.map (·.1)) (u'.map (·.1)) ((s'.map (·.1)).getD 1) z.length).filterMap (z.cps[·]?)).toArray⟩) (EP X pins σ Q) _
  rw [es1, el1, eu1]
  rw [if_neg (by simp)]
  have er := rev_two z hz
  show Made.post (Made.str ⟨((Builtin.Str.strSliceIndices none none (-1) z.length).filterMap (z.cps[·]?)).toArray⟩) (EP X pins σ Q) _
  rw [er]
  have hl : (revS z).length ≤ sizeLine := by
    have hline : sizeLine = 16777216 := rfl
    show ((z.cps.toList.reverse).toArray).size ≤ _
    rw [List.size_toArray, List.length_reverse, Array.length_toList]
    have : z.cps.size ≤ 2 := hz
    omega
  exact ⟨hl, .str _, H4, I5.tok _, ⟨_, rfl⟩, q⟩
end
def rStrCat : R2 := fun x y H Q => ∃ i j, x = .str i ∧ y = .str j ∧ i.length + j.length ≤ sizeLine ∧ Q (.str (i ++ j)) H
def opB : BO → Operator
  | .add => .Add | .sub => .Sub | .mul => .Mult | .fdiv => .FloorDiv | .mod => .Mod | .pow => .Pow
def rBin (K : PySem.W.Frag) : BO → R2
  | .add => fun x y H Q => rI0 (fun i j => .int (i + j)) x y H Q ∨ rStrCat x y H Q ∨ rCat x y H Q ∨ rCatA K x y H Q
  | .sub => rI0 fun i j => .int (i - j)
  | .mul => fun x y H Q => rI CMul (fun i j => .int (i * j)) x y H Q ∨ rStrRep x y H Q
  | .fdiv => rI CDiv fun i j => .int (i / j)
  | .mod => rI (fun _ j => 0 < j) fun i j => .int (i % j)
  | .pow => rI CPow fun i j => .int (i ^ j.toNat)
theorem op_bin : ∀ b : BO, OpR X (binaryOp (opB b)) (rBin X.K b)
  | .add => op_add.or (op_add_str.or (op_cat.or op_catA))
  | .sub => op_sub
  | .mul => op_mul.or op_rep_str
  | .fdiv => op_fdiv
  | .mod => op_mod
  | .pow => op_pow
def rAug : BO → R2
  | .add => fun x y H Q => rI0 (fun i j => .int (i + j)) x y H Q ∨ rStrCat x y H Q
  | .sub => rI0 fun i j => .int (i - j)
  | .mul => rI CMul fun i j => .int (i * j)
  | .fdiv => rI CDiv fun i j => .int (i / j)
  | .mod => rI (fun _ j => 0 < j) fun i j => .int (i % j)
  | .pow => fun _ _ _ _ => False
theorem op_aug : ∀ b : BO, OpR X (inplaceOp (opB b)) (rAug b)
  | .add => iop_add.or iop_add_str
  | .sub => iop_sub
  | .mul => iop_mul
  | .fdiv => iop_fdiv
  | .mod => iop_mod
  | .pow => fun _ _ _ _ _ _ _ _ _ _ _ _ h => h.elim
def opC : CO → CmpOp
  | .eq => .Eq | .ne => .NotEq | .lt => .Lt | .le => .LtE | .gt => .Gt | .ge => .GtE | .in_ => .In | .nin => .NotIn | .is_ => .Is | .isnt => .IsNot
/-- texts in order -/
def rStrC (f : List Nat → List Nat → Bool) : R2 := fun x y H Q => ∃ i j : Str, x = .str i ∧ y = .str j ∧ Q (.bl (f i.cps.toList j.cps.toList)) H
def rBlC (f : Bool → Bool → Bool) : R2 := fun x y H Q => ∃ a b : Bool, x = .bl a ∧ y = .bl b ∧ Q (.bl (f a b)) H
/-- one sign in a text -/
def rSgn (pos : Bool) : R2 := fun x y H Q => ∃ (c : Nat) (z : Str), x = .str ⟨#[c]⟩ ∧ y = .str z ∧ Q (.bl (decide (c ∈ z.cps.toList) == pos)) H
theorem op_inSgn : OpR X (compareOp .In) (rSgn true) := by
  intro pins s σ H x y u v Q I ru rv ⟨c, z, ex, ey, q⟩
  exact op_in_sign pins s σ H x y u v Q I ru rv ⟨c, z, ex, ey, by simpa using q⟩
theorem op_ninSgn : OpR X (compareOp .NotIn) (rSgn false) := by
  intro pins s σ H x y u v Q I ru rv ⟨c, z, ex, ey, q⟩
  exact op_notIn_sign pins s σ H x y u v Q I ru rv ⟨c, z, ex, ey, by simpa using q⟩
def rCmp (K : PySem.W.Frag) : CO → R2
  | .eq => rEqZ K false
  | .ne => rEqZ K true
  | .lt => fun x y H Q => rI0 (fun i j => .bl (decide (i < j))) x y H Q ∨ rStrC (fun i j => decide (i < j)) x y H Q
  | .le => fun x y H Q => rI0 (fun i j => .bl (decide (i ≤ j))) x y H Q ∨ rStrC (fun i j => !decide (j < i)) x y H Q
  | .gt => fun x y H Q => rI0 (fun i j => .bl (decide (j < i))) x y H Q ∨ rStrC (fun i j => decide (j < i)) x y H Q
  | .ge => fun x y H Q => rI0 (fun i j => .bl (decide (j ≤ i))) x y H Q ∨ rStrC (fun i j => !decide (i < j)) x y H Q
  | .is_ => rBlC fun a b => decide (a = b)
  | .isnt => rBlC fun a b => !decide (a = b)
  | .in_ => fun x y H Q => rIn K false x y H Q ∨ (∃ a o, y = .ref a ∧ DGet H a x o ∧ Q (.bl o.isSome) H) ∨ rSgn true x y H Q
  | .nin => fun x y H Q => rIn K true x y H Q ∨ (∃ a o, y = .ref a ∧ DGet H a x o ∧ Q (.bl (!o.isSome)) H) ∨ rSgn false x y H Q
theorem op_cmp (hu : room2 X) : ∀ c : CO, OpR X (compareOp (opC c)) (rCmp X.K c)
  | .eq => op_eqZ hu
  | .ne => op_neZ hu
  | .lt => op_lt.or op_lt_str
  | .le => op_le.or op_le_str
  | .gt => op_gt.or op_gt_str
  | .ge => op_ge.or op_ge_str
  | .is_ => op_is_bl
  | .isnt => op_isnot_bl
  | .in_ => op_in_seq.or ((op_inD hu).or op_inSgn)
  | .nin => op_notIn_seq.or ((op_ninD hu).or op_ninSgn)
end
end Z
end

section
/-! ZH: the readings of operators, subscripts, truth. -/
namespace Z
open PySem PySem.Spec PyProof.Rows L2
section
variable {M : Nm} {K : PySem.W.Frag} {W : WX} {σ : L2.St} {F F' H H' : Hp} {ρ ρ' : List Addr} {st : Store}
theorem PK.int {i : Int} {v : V} (h : PK K F H (.int i) v) : v = .int i := by
  have h' : RP K F (.int i) v := h
  simpa only [RP] using h'
theorem PK.str {s : Sg} {v : V} (h : PK K F H (.str s) v) : v = .str (mkS s) ∧ okS s = true := by
  have h' : RP K F (.str s) v := h
  simpa only [RP] using h'
theorem okS_append {a b : Sg} (h : okS a = true) (h' : okS b = true) : okS (a ++ b) = true := by
  simp only [okS, List.all_append, Bool.and_eq_true] at *
  exact ⟨h, h'⟩
theorem mkS_append (a b : Sg) : mkS (a ++ b) = mkS a ++ mkS b := by
  show (⟨(a ++ b).toArray⟩ : Str) = ⟨a.toArray ++ b.toArray⟩
  rw [List.append_toArray]
theorem mulOk_ok {i j : Int} (h : mulOk i j = true) : CMul i j := by
  simp only [mulOk, Bool.or_eq_true, Bool.and_eq_true, decide_eq_true_eq] at h
  exact h
theorem divOk_ok {i j : Int} (h : divOk j = true) : CDiv i j := by
  simp only [divOk, Bool.and_eq_true, decide_eq_true_eq] at h
  exact h
theorem powOk_ok {i j : Int} (h : powOk i j = true) : CPow i j := by
  simp only [powOk, Bool.and_eq_true, decide_eq_true_eq] at h
  exact ⟨h.1.1, h.1.2, h.2⟩
/-- a tree comes, made in a new object -/
theorem PostE.made {Q : VK} {p : PV} {o : HO} {a : Addr} (q : PostE M K W σ F ρ H Q (.ok (.pv p) st)) (hh : HR' M K F ρ H st) (na : H a = none) (r : RP K (upd F a o) p (.ref a)) : Q (.ref a) (upd H a o) := by
  obtain ⟨g, h⟩ := hh.new na o
  exact q _ _ _ _ g h (by simp only [RL]; exact r)
theorem rd_binP {op : BO} {p q z : PV} {v w : V} {Q : VK} (hh : HR' M K F ρ H st) (hp : PK K F H p v) (hq : PK K F H q w) (e : doBin op p q = some z) (post : PostE M K W σ F ρ H Q (.ok (.pv z) st)) : rBin K op v w H Q := by
  cases op <;> cases p <;> simp only [doBin, reduceCtorEq] at e <;> cases q <;> simp only [doBin, Option.some.injEq, reduceCtorEq] at e
  case add.int.int i j =>
    subst e
    exact .inl ⟨i, j, hp.int, hq.int, post.tree hh (by simp only [RP])⟩
  case add.str.str x y =>
    split at e
    · rename_i hl
      simp only [Option.some.injEq] at e
      subst e
      refine .inr (.inl ⟨mkS x, mkS y, hp.str.1, hq.str.1, by rw [mkS_len, mkS_len, line_eq]; exact hl, post.tree hh ?_⟩)
      simp only [RP]
      exact ⟨by rw [mkS_append], okS_append hp.str.2 hq.str.2⟩
    · cases e
  case add.tup.tup xs ys =>
    split at e
    · rename_i hl
      simp only [Option.some.injEq] at e
      subst e
      simp only [PK, RP] at hp hq
      obtain ⟨a, vs, ea, ha, ra⟩ := hp
      obtain ⟨b, ws, eb, hb, rb⟩ := hq
      have ha' := hh.sub _ _ ha
      have hb' := hh.sub _ _ hb
      refine .inr (.inr (.inr ⟨a, b, vs, ws, ea, eb, .inl (.inl ha'), .inl (.inl hb'), by rw [← ra.length, ← rb.length, line_eq]; exact hl, fun e0 => ?_, fun _ e1 => ?_, fun _ _ p np => ?_⟩))
      · subst e0
        have : xs = [] := List.length_eq_zero_iff.mp (by rw [ra.length]; rfl)
        subst this
        exact post.tree hh (by rw [List.nil_append]; simp only [RP]; exact ⟨b, ws, rfl, hb, rb⟩)
      · subst e1
        have : ys = [] := List.length_eq_zero_iff.mp (by rw [rb.length]; rfl)
        subst this
        exact post.tree hh (by rw [List.append_nil]; simp only [RP]; exact ⟨a, vs, rfl, ha, ra⟩)
      · refine post.made hh np ?_
        simp only [RP]
        exact ⟨p, vs ++ ws, rfl, upd_same, RPs.mono (sub_upd (hh.fresh np)) _ _ (ra.append rb)⟩
    · cases e
  case add.lst.lst xs ys =>
    split at e
    · rename_i hl
      simp only [Option.some.injEq] at e
      subst e
      obtain ⟨a, vs, ea, ha, ra⟩ := hp
      obtain ⟨b, ws, eb, hb, rb⟩ := hq
      refine .inr (.inr (.inl ⟨a, b, vs, ws, ea, eb, ha, hb, by rw [← ra.length, ← rb.length, line_eq]; exact hl, fun p np => ?_⟩))
      refine post.made hh np ?_
      simp only [RP]
      exact ⟨p, vs ++ ws, rfl, upd_same, RPs.mono (sub_upd (hh.fresh np)) _ _ (ra.append rb)⟩
    · cases e
  case sub.int.int i j =>
    subst e
    exact ⟨i, j, hp.int, hq.int, post.tree hh (by simp only [RP])⟩
  case mul.int.int i j =>
    split at e
    · rename_i hl
      simp only [Option.some.injEq] at e
      subst e
      exact .inl ⟨i, j, hp.int, hq.int, mulOk_ok hl, post.tree hh (by simp only [RP])⟩
    · cases e
  case mul.str.int x k =>
    split at e
    · rename_i hl
      obtain ⟨h1, h2, h3, h4⟩ := hl
      simp only [Option.some.injEq] at e
      subst e
      refine .inr ⟨mkS x, k, hp.str.1, hq.int, h1, h2, by rw [mkS_len, line_eq]; exact h3, by rw [mkS_len, line_eq]; exact h4, post.tree hh ?_⟩
      simp only [RP]
      refine ⟨by unfold repS mkS; simp, ?_⟩
      have hx := hp.str.2
      simp only [okS, List.all_eq_true, List.mem_flatten, List.mem_replicate] at hx ⊢
      rintro c ⟨l, ⟨_, rfl⟩, hc⟩
      exact hx c hc
    · cases e
  case fdiv.int.int i j =>
    split at e
    · rename_i hl
      simp only [Option.some.injEq] at e
      subst e
      exact ⟨i, j, hp.int, hq.int, divOk_ok hl, post.tree hh (by simp only [RP])⟩
    · cases e
  case mod.int.int i j =>
    split at e
    · rename_i hl
      simp only [Option.some.injEq] at e
      subst e
      exact ⟨i, j, hp.int, hq.int, hl, post.tree hh (by simp only [RP])⟩
    · cases e
  case pow.int.int i j =>
    split at e
    · rename_i hl
      simp only [Option.some.injEq] at e
      subst e
      exact ⟨i, j, hp.int, hq.int, powOk_ok hl, post.tree hh (by simp only [RP])⟩
    · cases e
theorem rd_bin (op : BO) : RdV2 M K W (rBin K op) (bin op) := by
  intro σ H Q F ρ st x y v w res hh rx ry e p
  unfold bin at e
  cases ex : peek st x with
  | none => simp [ex] at e
  | some a =>
    cases ey : peek st y with
    | none => simp [ex, ey] at e
    | some b =>
      simp only [ex, ey] at e
      cases eb : doBin op a b with
      | none => simp [eb, okP] at e
      | some z =>
        simp only [eb, okP, Option.some.injEq] at e
        subst e
        exact rd_binP hh (peek_ok hh rx ex) (peek_ok hh ry ey) eb p

/-! ### flat things -/
theorem flat_ok {p : PV} {v : V} (f : flat p = true) (h : PK K F H p v) : flatV v = true := by
  cases p <;> simp [flat] at f <;> (simp only [PK, RP] at h) <;> first | (subst h; rfl) | (obtain ⟨h, _⟩ := h; subst h; rfl)
theorem flat_eq {p q : PV} {v w : V} (f : flat p = true) (f' : flat q = true) (h : PK K F H p v) (h' : PK K F H q w) : eqV v w = eqP p q := by
  cases p <;> simp [flat] at f <;> cases q <;> simp [flat] at f' <;> simp only [PK, RP] at h h' <;>
    first
      | (subst h h'; simp [eqV, eqP])
      | (obtain ⟨h, _⟩ := h; obtain ⟨h', _⟩ := h'; subst h h'; simp [eqV, eqP, mkS_beq])
      | (obtain ⟨h, _⟩ := h; subst h h'; simp [eqV, eqP])
      | (obtain ⟨h', _⟩ := h'; subst h h'; simp [eqV, eqP])
theorem flats_ok : ∀ {ps : List PV} {vs : List V}, (ps.all flat) = true → RPs K F ps vs → vs.all flatV = true
  | [], vs, _, h => by simp only [RPs] at h; subst h; rfl
  | x :: xs, vs, f, h => by
    simp only [RPs] at h
    obtain ⟨v, r, e1, e2, e3⟩ := h
    subst e1
    simp only [List.all_cons, Bool.and_eq_true] at f ⊢
    exact ⟨flat_ok (H := F) f.1 (PK.of (Sub.refl F) e2), flats_ok f.2 e3⟩
theorem inV_ok {x : PV} {v : V} (fx : flat x = true) (hx : PK K F H x v) (s : Sub F H) : ∀ {ps : List PV} {vs : List V}, (ps.all flat) = true → RPs K F ps vs → inV v vs = ps.any fun y => eqP y x
  | [], vs, _, h => by simp only [RPs] at h; subst h; rfl
  | y :: xs, vs, f, h => by
    simp only [RPs] at h
    obtain ⟨w, r, e1, e2, e3⟩ := h
    subst e1
    simp only [List.all_cons, Bool.and_eq_true] at f
    have ih := inV_ok fx hx s f.2 e3
    unfold inV at ih ⊢
    rw [List.any_cons, List.any_cons, ih, flat_eq f.1 fx (PK.of s e2) hx]
theorem RPs.any_sq (s : Sub F H) {p : PV} {v : V} {xs : List PV} (hp : p = .lst xs ∨ p = .tup xs) (h : PK K F H p v) : ∃ a vs, v = .ref a ∧ (SqL K H a vs ∨ SqT K H a vs) ∧ RPs K F xs vs := by
  rcases hp with e | e
  · subst e
    obtain ⟨a, vs, e1, e2, e3⟩ := h
    exact ⟨a, vs, e1, .inl (.inl (.inl e2)), e3⟩
  · subst e
    simp only [PK, RP] at h
    obtain ⟨a, vs, e1, e2, e3⟩ := h
    exact ⟨a, vs, e1, .inr (.inl (.inl (s _ _ e2))), e3⟩

/-! ### keys -/
theorem kV_of {p : PV} {k : Ky} {v : V} (e : keyK p = some k) (h : PK K F H p v) : v = kV (kyS k) ∧ okK k = true := by
  cases p <;> simp [keyK] at e
  · subst e
    exact ⟨h.int, rfl⟩
  · subst e
    exact ⟨h.str.1, h.str.2⟩
theorem kVs_of : ∀ {ps : List PV} {ks : List Ky} {vs : List V}, keyKs ps = some ks → RPs K F ps vs → vs = (ks.map kyS).map kV ∧ ks.all okK = true
  | [], ks, vs, e, h => by
    simp [keyKs] at e; subst e
    simp only [RPs] at h; subst h
    exact ⟨rfl, rfl⟩
  | x :: xs, ks, vs, e, h => by
    simp only [RPs] at h
    obtain ⟨v, r, e1, e2, e3⟩ := h
    subst e1
    unfold keyKs at e
    cases q : keyK x with
    | none => simp [q] at e
    | some k =>
      simp only [q, Option.map_eq_some_iff] at e
      obtain ⟨ks', e4, e5⟩ := e
      subst e5
      obtain ⟨h1, h2⟩ := kV_of (H := F) q (PK.of (Sub.refl F) e2)
      obtain ⟨h3, h4⟩ := kVs_of e4 e3
      exact ⟨by rw [h1, h3]; rfl, by simp [h2, h4]⟩
theorem valV_k : ∀ {kvs : List (Ky × PV)} {ks : List (Key × V)} (k : Ky), RPk K F kvs ks → (look k kvs = none ∧ valV ks (kyS k) = none) ∨ ∃ p v, look k kvs = some p ∧ valV ks (kyS k) = some v ∧ RP K F p v
  | [], ks, k, h => by simp only [RPk] at h; subst h; exact .inl ⟨rfl, rfl⟩
  | (j, p) :: r, ks, k, h => by
    simp only [RPk] at h
    obtain ⟨v, s, e1, e2, e3, e4⟩ := h
    subst e1
    by_cases hj : j = k
    · subst hj
      exact .inr ⟨p, v, by simp [look], valV_pos rfl, e3⟩
    · have hn : ¬ kyS j = kyS k := fun e => hj (kyS_inj e)
      rw [valV_neg (p := (kyS j, v)) hn]
      simp only [look, if_neg hj]
      exact valV_k k e4
theorem valV_t : ∀ {kvs : List (List Ky × PV)} {ks : List (List Key × V)} (k : List Ky), RPt K F kvs ks → (look k kvs = none ∧ valV ks (k.map kyS) = none) ∨ ∃ p v, look k kvs = some p ∧ valV ks (k.map kyS) = some v ∧ RP K F p v
  | [], ks, k, h => by simp only [RPt] at h; subst h; exact .inl ⟨rfl, rfl⟩
  | (j, p) :: r, ks, k, h => by
    simp only [RPt] at h
    obtain ⟨v, s, e1, e2, e3, e4⟩ := h
    subst e1
    by_cases hj : j = k
    · subst hj
      exact .inr ⟨p, v, by simp [look], valV_pos rfl, e3⟩
    · have hn : ¬ j.map kyS = k.map kyS := fun e => hj (kySs_inj e)
      rw [valV_neg (p := (j.map kyS, v)) hn]
      simp only [look, if_neg hj]
      exact valV_t k e4
theorem valV_kL : ∀ {kvs : List (Ky × LV)} {ks : List (Key × V)} (k : Ky), RLk K F ρ kvs ks → (look k kvs = none ∧ valV ks (kyS k) = none) ∨ ∃ p v, look k kvs = some p ∧ valV ks (kyS k) = some v ∧ RL K F ρ p v
  | [], ks, k, h => by simp only [RLk] at h; subst h; exact .inl ⟨rfl, rfl⟩
  | (j, p) :: r, ks, k, h => by
    simp only [RLk] at h
    obtain ⟨v, s, e1, e2, e3, e4⟩ := h
    subst e1
    by_cases hj : j = k
    · subst hj
      exact .inr ⟨p, v, by simp [look], valV_pos rfl, e3⟩
    · have hn : ¬ kyS j = kyS k := fun e => hj (kyS_inj e)
      rw [valV_neg (p := (kyS j, v)) hn]
      simp only [look, if_neg hj]
      exact valV_kL k e4
theorem valV_tL : ∀ {kvs : List (List Ky × LV)} {ks : List (List Key × V)} (k : List Ky), RLt K F ρ kvs ks → (look k kvs = none ∧ valV ks (k.map kyS) = none) ∨ ∃ p v, look k kvs = some p ∧ valV ks (k.map kyS) = some v ∧ RL K F ρ p v
  | [], ks, k, h => by simp only [RLt] at h; subst h; exact .inl ⟨rfl, rfl⟩
  | (j, p) :: r, ks, k, h => by
    simp only [RLt] at h
    obtain ⟨v, s, e1, e2, e3, e4⟩ := h
    subst e1
    by_cases hj : j = k
    · subst hj
      exact .inr ⟨p, v, by simp [look], valV_pos rfl, e3⟩
    · have hn : ¬ j.map kyS = k.map kyS := fun e => hj (kySs_inj e)
      rw [valV_neg (p := (j.map kyS, v)) hn]
      simp only [look, if_neg hj]
      exact valV_tL k e4
/-- the key of a dict of tuples lies as a tracked tuple -/
theorem kT_of (s : Sub F H) {p : PV} {k : List Ky} {v : V} (e : keyT p = some k) (h : PK K F H p v) : ∃ b, v = .ref b ∧ H b = some (.tup ((k.map kyS).map kV)) := by
  cases p <;> simp [keyT] at e
  rename_i xs
  simp only [PK, RP] at h
  obtain ⟨a, vs, e1, e2, e3⟩ := h
  obtain ⟨h1, _⟩ := kVs_of e e3
  exact ⟨a, e1, by rw [← h1]; exact s _ _ e2⟩
theorem kT_ok {p : PV} {k : List Ky} {v : V} (e : keyT p = some k) (h : PK K F H p v) : k.all okK = true := by
  cases p <;> simp [keyT] at e
  simp only [PK, RP] at h
  obtain ⟨a, vs, e1, e2, e3⟩ := h
  exact (kVs_of e e3).2
theorem look_isSome {κ α : Type} [DecidableEq κ] (k : κ) (kvs : List (κ × α)) : has k kvs = (look k kvs).isSome := rfl
theorem dget_k {kvs : List (Ky × PV)} {q : PV} {k : Ky} {v w : V} (hp : PK K F H (.dk kvs) v) (hq : PK K F H q w) (e : keyK q = some k) :
    ∃ a, v = .ref a ∧ ((look k kvs = none ∧ DGet H a w none) ∨ ∃ p z, look k kvs = some p ∧ DGet H a w (some z) ∧ RP K F p z) := by
  obtain ⟨a, ks, e1, e2, e3⟩ := hp
  obtain ⟨h1, _⟩ := kV_of e hq
  subst h1
  refine ⟨a, e1, ?_⟩
  have d := DGet.k (k := kyS k) e2
  rcases valV_k k e3 with ⟨l1, l2⟩ | ⟨p, z, l1, l2, l3⟩
  · rw [l2] at d; exact .inl ⟨l1, d⟩
  · rw [l2] at d; exact .inr ⟨p, z, l1, d, l3⟩
theorem dget_t (s : Sub F H) {kvs : List (List Ky × PV)} {q : PV} {k : List Ky} {v w : V} (hp : PK K F H (.dt kvs) v) (hq : PK K F H q w) (e : keyT q = some k) :
    ∃ a, v = .ref a ∧ ((look k kvs = none ∧ DGet H a w none) ∨ ∃ p z, look k kvs = some p ∧ DGet H a w (some z) ∧ RP K F p z) := by
  obtain ⟨a, ks, e1, e2, e3⟩ := hp
  obtain ⟨b, h1, h2⟩ := kT_of s e hq
  subst h1
  refine ⟨a, e1, ?_⟩
  have d := DGet.t e2 h2
  rcases valV_t k e3 with ⟨l1, l2⟩ | ⟨p, z, l1, l2, l3⟩
  · rw [l2] at d; exact .inl ⟨l1, d⟩
  · rw [l2] at d; exact .inr ⟨p, z, l1, d, l3⟩
theorem rd_eq {neg : Bool} {p q : PV} {c : Bool} {v w : V} {Q : VK} (hh : HR' M K F ρ H st) (hp : PK K F H p v) (hq : PK K F H q w) (e : opEq p q = some c) (post : PostE M K W σ F ρ H Q (.ok (.pv (.bl (neg ^^ c))) st)) : rEqZ K neg v w H Q := by
  unfold opEq at e
  split at e
  · rename_i hc
    simp only [Option.some.injEq] at e
    simp only [Bool.and_eq_true, decide_eq_true_eq] at hc
    obtain ⟨d1, c1⟩ := hp.dp hh.sub hc.1.1
    obtain ⟨d2, c2⟩ := hq.dp hh.sub hc.1.2
    refine ⟨_, _, d1, d2, c1, c2, by rw [depth_toD, depth_toD]; exact hc.2, ?_⟩
    rw [eqv_toD p q hc.1.1 hc.1.2, e]
    exact post.tree hh (by simp only [RP])
  · cases e
theorem rd_in {neg : Bool} {x : PV} {xs : List PV} {c : Bool} {p : PV} {v w : V} {Q : VK} (hh : HR' M K F ρ H st) (hx : PK K F H x v) (hp : p = .lst xs ∨ p = .tup xs) (hq : PK K F H p w) (e : inFlat x xs = some c)
    (post : PostE M K W σ F ρ H Q (.ok (.pv (.bl (if neg then !c else c))) st)) : rIn K neg v w H Q := by
  unfold inFlat at e
  split at e
  · rename_i hc
    simp only [Option.some.injEq] at e
    simp only [Bool.and_eq_true] at hc
    obtain ⟨a, vs, e1, e2, e3⟩ := RPs.any_sq hh.sub hp hq
    refine ⟨a, vs, e1, e2, flat_ok hc.1 hx, flats_ok hc.2 e3, ?_⟩
    rw [inV_ok hc.1 hx hh.sub hc.2 e3, e]
    exact post.tree hh (by simp only [RP])
  · cases e
theorem rd_sgn (pos : Bool) {x y : Sg} {c : Bool} {v w : V} {Q : VK} (hh : HR' M K F ρ H st) (hx : PK K F H (.str x) v) (hy : PK K F H (.str y) w) (e : inText x y = some c) (post : PostE M K W σ F ρ H Q (.ok (.pv (.bl (c == pos))) st)) : rSgn pos v w H Q := by
  unfold inText at e
  split at e
  · rename_i d
    simp only [Option.some.injEq] at e
    subst e
    refine ⟨d, mkS y, hx.str.1, hy.str.1, ?_⟩
    rw [mkS_cps]
    exact post.tree hh (by simp only [RP])
  · cases e
theorem rd_cmpP {op : CO} {p q : PV} {c : Bool} {v w : V} {Q : VK} (hh : HR' M K F ρ H st) (hp : PK K F H p v) (hq : PK K F H q w) (e : doCmp op p q = some c) (post : PostE M K W σ F ρ H Q (.ok (.pv (.bl c)) st)) : rCmp K op v w H Q := by
  cases op
  case eq => exact rd_eq (neg := false) hh hp hq (by simpa [doCmp] using e) (by simpa using post)
  case ne =>
    simp only [doCmp, Option.map_eq_some_iff] at e
    obtain ⟨d, e1, e2⟩ := e
    exact rd_eq (neg := true) hh hp hq e1 (by rw [Bool.true_xor, e2]; exact post)
  case lt =>
    cases p <;> cases q <;> simp only [doCmp, Option.some.injEq, reduceCtorEq] at e
    case int.int =>
      subst e
      exact .inl ⟨_, _, hp.int, hq.int, post.tree hh (by simp only [RP])⟩
    case str.str x y =>
      subst e
      refine .inr ⟨mkS x, mkS y, hp.str.1, hq.str.1, ?_⟩
      rw [mkS_cps, mkS_cps]
      exact post.tree hh (by simp only [RP])
  case le =>
    cases p <;> cases q <;> simp only [doCmp, Option.some.injEq, reduceCtorEq] at e
    case int.int =>
      subst e
      exact .inl ⟨_, _, hp.int, hq.int, post.tree hh (by simp only [RP])⟩
    case str.str x y =>
      subst e
      refine .inr ⟨mkS x, mkS y, hp.str.1, hq.str.1, ?_⟩
      rw [mkS_cps, mkS_cps]
      show Q (V.bl (!decide (y < x))) H
      rw [show (!decide (y < x)) = decide (x ≤ y) from by rw [← decide_not]; exact decide_eq_decide.mpr (by exact List.not_lt)]; exact post.tree hh (by simp only [RP])
  case gt =>
    cases p <;> cases q <;> simp only [doCmp, Option.some.injEq, reduceCtorEq] at e
    case int.int =>
      subst e
      exact .inl ⟨_, _, hp.int, hq.int, post.tree hh (by simp only [RP])⟩
    case str.str x y =>
      subst e
      refine .inr ⟨mkS x, mkS y, hp.str.1, hq.str.1, ?_⟩
      rw [mkS_cps, mkS_cps]
      exact post.tree hh (by simp only [RP])
  case ge =>
    cases p <;> cases q <;> simp only [doCmp, Option.some.injEq, reduceCtorEq] at e
    case int.int =>
      subst e
      exact .inl ⟨_, _, hp.int, hq.int, post.tree hh (by simp only [RP])⟩
    case str.str x y =>
      subst e
      refine .inr ⟨mkS x, mkS y, hp.str.1, hq.str.1, ?_⟩
      rw [mkS_cps, mkS_cps]
      show Q (V.bl (!decide (x < y))) H
      rw [show (!decide (x < y)) = decide (y ≤ x) from by rw [← decide_not]; exact decide_eq_decide.mpr (by exact List.not_lt)]; exact post.tree hh (by simp only [RP])
  case is_ =>
    cases p <;> cases q <;> simp only [doCmp, Option.some.injEq, reduceCtorEq] at e
    subst e
    simp only [PK, RP] at hp hq
    exact ⟨_, _, hp, hq, post.tree hh (by simp only [RP])⟩
  case isnt =>
    cases p <;> cases q <;> simp only [doCmp, Option.some.injEq, reduceCtorEq] at e
    subst e
    simp only [PK, RP] at hp hq
    exact ⟨_, _, hp, hq, post.tree hh (by simp only [RP])⟩
  case in_ =>
    by_cases hx : ∃ x y, p = .str x ∧ q = .str y
    · obtain ⟨x, y, rfl, rfl⟩ := hx
      exact .inr (.inr (rd_sgn true hh hp hq (by simpa [doCmp] using e) (by simpa using post)))
    cases q <;> simp only [doCmp, Option.map_eq_some_iff, reduceCtorEq] at e
    case str y =>
      cases p <;> simp only [doCmp, reduceCtorEq] at e
      exact absurd ⟨_, _, rfl, rfl⟩ hx
    case lst xs => exact .inl (rd_in (neg := false) hh hp (.inl rfl) hq e (by simpa using post))
    case tup xs => exact .inl (rd_in (neg := false) hh hp (.inr rfl) hq e (by simpa using post))
    case dk kvs =>
      obtain ⟨k, e1, e2⟩ := e
      obtain ⟨a, ea, d⟩ := dget_k hq hp e1
      rcases d with ⟨l, d⟩ | ⟨z, u, l, d, _⟩
      · refine .inr (.inl ⟨a, none, ea, d, ?_⟩)
        rw [look_isSome, l] at e2
        subst e2
        exact post.tree hh (by simp only [RP]; rfl)
      · refine .inr (.inl ⟨a, some u, ea, d, ?_⟩)
        rw [look_isSome, l] at e2
        subst e2
        exact post.tree hh (by simp only [RP]; rfl)
    case dt kvs =>
      obtain ⟨k, e1, e2⟩ := e
      obtain ⟨a, ea, d⟩ := dget_t hh.sub hq hp e1
      rcases d with ⟨l, d⟩ | ⟨z, u, l, d, _⟩
      · refine .inr (.inl ⟨a, none, ea, d, ?_⟩)
        rw [look_isSome, l] at e2
        subst e2
        exact post.tree hh (by simp only [RP]; rfl)
      · refine .inr (.inl ⟨a, some u, ea, d, ?_⟩)
        rw [look_isSome, l] at e2
        subst e2
        exact post.tree hh (by simp only [RP]; rfl)
  case nin =>
    by_cases hx : ∃ x y, p = .str x ∧ q = .str y
    · obtain ⟨x, y, rfl, rfl⟩ := hx
      simp only [doCmp, Option.map_eq_some_iff] at e
      obtain ⟨d, e1, e2⟩ := e
      exact .inr (.inr (rd_sgn false hh hp hq e1 (by rw [show (d == false) = !d by cases d <;> rfl, e2]; exact post)))
    cases q <;> simp only [doCmp, Option.map_eq_some_iff, reduceCtorEq] at e
    case str y =>
      cases p <;> simp only [doCmp, reduceCtorEq] at e
      exact absurd ⟨_, _, rfl, rfl⟩ hx
    case lst xs =>
      obtain ⟨d, e1, e2⟩ := e
      exact .inl (rd_in (neg := true) hh hp (.inl rfl) hq e1 (by simp only [if_true]; rw [e2]; exact post))
    case tup xs =>
      obtain ⟨d, e1, e2⟩ := e
      exact .inl (rd_in (neg := true) hh hp (.inr rfl) hq e1 (by simp only [if_true]; rw [e2]; exact post))
    case dk kvs =>
      obtain ⟨k, e1, e2⟩ := e
      obtain ⟨a, ea, d⟩ := dget_k hq hp e1
      rcases d with ⟨l, d⟩ | ⟨z, u, l, d, _⟩
      · refine .inr (.inl ⟨a, none, ea, d, ?_⟩)
        rw [look_isSome, l] at e2
        subst e2
        exact post.tree hh (by simp only [RP]; rfl)
      · refine .inr (.inl ⟨a, some u, ea, d, ?_⟩)
        rw [look_isSome, l] at e2
        subst e2
        exact post.tree hh (by simp only [RP]; rfl)
    case dt kvs =>
      obtain ⟨k, e1, e2⟩ := e
      obtain ⟨a, ea, d⟩ := dget_t hh.sub hq hp e1
      rcases d with ⟨l, d⟩ | ⟨z, u, l, d, _⟩
      · refine .inr (.inl ⟨a, none, ea, d, ?_⟩)
        rw [look_isSome, l] at e2
        subst e2
        exact post.tree hh (by simp only [RP]; rfl)
      · refine .inr (.inl ⟨a, some u, ea, d, ?_⟩)
        rw [look_isSome, l] at e2
        subst e2
        exact post.tree hh (by simp only [RP]; rfl)
theorem rd_cmp (op : CO) : RdV2 M K W (rCmp K op) (cmp op) := by
  intro σ H Q F ρ st x y v w res hh rx ry e p
  unfold cmp at e
  cases ex : peek st x with
  | none => simp [ex] at e
  | some a =>
    cases ey : peek st y with
    | none => simp [ex, ey] at e
    | some b =>
      simp only [ex, ey, Option.map_eq_some_iff] at e
      obtain ⟨c, e1, e2⟩ := e
      subst e2
      exact rd_cmpP hh (peek_ok hh rx ex) (peek_ok hh ry ey) e1 p

/-! ### subscripts -/
theorem atI_eq {α : Type} (xs : List α) (i : Int) : L2.atI xs i = atI xs i := by
  unfold L2.atI atI
  show (L2.ixN xs.length i).bind _ = match Z.ixN xs.length i with | some j => xs[j]? | none => none
  have e : L2.ixN xs.length i = Z.ixN xs.length i := rfl
  rw [e]
  cases Z.ixN xs.length i <;> rfl
theorem RPs.at_ {xs : List PV} {vs : List V} (h : RPs K F xs vs) {i : Int} {x : PV} (e : atI xs i = some x) : ∃ v, L2.atI vs i = some v ∧ RP K F x v := by
  rw [atI_eq]
  unfold atI at e ⊢
  rw [← h.length]
  cases q : ixN xs.length i with
  | none => simp [q] at e
  | some j =>
    simp only [q] at e ⊢
    exact h.get e
theorem RLs.at_ {xs : List LV} {vs : List V} (h : RLs K F ρ xs vs) {i : Int} {x : LV} (e : atI xs i = some x) : ∃ v, L2.atI vs i = some v ∧ RL K F ρ x v := by
  rw [atI_eq]
  unfold atI at e ⊢
  rw [← h.length]
  cases q : ixN xs.length i with
  | none => simp [q] at e
  | some j =>
    simp only [q] at e ⊢
    exact h.get e
theorem atI_mem {α : Type} {xs : List α} {i : Int} {x : α} (e : atI xs i = some x) : x ∈ xs := by
  unfold atI at e
  cases q : ixN xs.length i with
  | none => simp [q] at e
  | some j =>
    simp only [q] at e
    exact List.mem_of_getElem? e
theorem rd_idxP {p i z : PV} {v w : V} {Q : VK} (hh : HR' M K F ρ H st) (hp : PK K F H p v) (hi : PK K F H i w) (e : doIdx p i = some z) (post : PostE M K W σ F ρ H Q (.ok (.pv z) st)) : rIxZ K v w H Q := by
  cases p <;> simp only [doIdx, reduceCtorEq] at e
  case str s =>
    cases i <;> simp only [reduceCtorEq] at e
    split at e
    · rename_i hl
      simp only [Option.map_eq_some_iff] at e
      obtain ⟨c, e1, e2⟩ := e
      subst e2
      refine .inr (.inr (.inl ⟨mkS s, _, c, hp.str.1, hi.int, by rw [mkS_len, line_eq]; exact hl, by rw [mkS_cps, atI_eq]; exact e1, post.tree hh ?_⟩))
      simp only [RP]
      refine ⟨rfl, ?_⟩
      have := hp.str.2
      simp only [okS, List.all_eq_true] at this
      simpa [okS] using this c (atI_mem e1)
    · cases e
  case tup xs =>
    cases i <;> simp only [reduceCtorEq] at e
    simp only [PK, RP] at hp
    obtain ⟨a, vs, e1, e2, e3⟩ := hp
    obtain ⟨u, h1, h2⟩ := e3.at_ e
    exact .inr (.inl ⟨a, vs, _, u, e1, hi.int, .inl (.inl (hh.sub _ _ e2)), h1, post.tree hh h2⟩)
  case lst xs =>
    cases i <;> simp only [reduceCtorEq] at e
    obtain ⟨a, vs, e1, e2, e3⟩ := hp
    obtain ⟨u, h1, h2⟩ := e3.at_ e
    exact .inl ⟨a, vs, _, u, e1, hi.int, .inl (.inl e2), h1, post.tree hh h2⟩
  case dk kvs =>
    cases q : keyK i with
    | none => simp [q] at e
    | some k =>
      simp only [q] at e
      obtain ⟨a, ea, d⟩ := dget_k hp hi q
      rcases d with ⟨l, d⟩ | ⟨z', u, l, d, rz⟩
      · rw [l] at e; cases e
      · rw [l] at e; cases e
        exact .inr (.inr (.inr ⟨a, u, ea, d, post.tree hh rz⟩))
  case dt kvs =>
    cases q : keyT i with
    | none => simp [q] at e
    | some k =>
      simp only [q] at e
      obtain ⟨a, ea, d⟩ := dget_t hh.sub hp hi q
      rcases d with ⟨l, d⟩ | ⟨z', u, l, d, rz⟩
      · rw [l] at e; cases e
      · rw [l] at e; cases e
        exact .inr (.inr (.inr ⟨a, u, ea, d, post.tree hh rz⟩))
theorem rd_getI : RdV2 M K W (rIxZ K) getI := by
  intro σ H Q F ρ st x y v w res hh rx ry e p
  cases x with
  | pv a =>
    cases y with
    | pv b =>
      simp only [getI] at e
      cases q : doIdx a b with
      | none => simp [q, okP] at e
      | some z =>
        simp only [q, okP, Option.some.injEq] at e
        subst e
        simp only [RL] at rx ry
        exact rd_idxP hh (PK.of hh.sub rx) (PK.of hh.sub ry) q p
    | ref _ => simp [getI] at e
    | tup _ => simp [getI] at e
    | exn _ => simp [getI] at e
  | ref n =>
    simp only [RL] at rx
    obtain ⟨a, ev, ea⟩ := rx
    obtain ⟨c, ec, hc⟩ := hh.at ea
    simp only [getI, ec] at e
    cases c with
    | lst live xs =>
      cases y with
      | pv b =>
        cases b <;> simp only [reduceCtorEq] at e
        rename_i i
        cases q : atI xs i with
        | none => simp [q] at e
        | some z =>
          simp only [q, Option.some.injEq] at e
          subst e
          obtain ⟨vs, h1, h2, _⟩ := hc
          obtain ⟨u, l1, l2⟩ := h2.at_ q
          simp only [RL, RP] at ry
          exact .inl ⟨a, vs, i, u, ev, ry, .inl (.inl h1), l1, p.here hh l2⟩
      | ref _ => simp at e
      | tup _ => simp at e
      | exn _ => simp at e
    | dk live kvs =>
      cases y with
      | pv b =>
        cases q : keyK b with
        | none => simp [q] at e
        | some k =>
          simp only [q] at e
          obtain ⟨ks, h1, h2, _⟩ := hc
          simp only [RL] at ry
          obtain ⟨hk, _⟩ := kV_of (H := F) q (PK.of (Sub.refl F) ry)
          subst hk
          have d := DGet.k (k := kyS k) h1
          rcases valV_kL k h2 with ⟨l1, l2⟩ | ⟨z, u, l1, l2, l3⟩
          · rw [l1] at e; cases e
          · rw [l1] at e; cases e
            rw [l2] at d
            exact .inr (.inr (.inr ⟨a, u, ev, d, p.here hh l3⟩))
      | ref _ => simp at e
      | tup _ => simp at e
      | exn _ => simp at e
    | dt live kvs =>
      cases y with
      | pv b =>
        cases q : keyT b with
        | none => simp [q] at e
        | some k =>
          simp only [q] at e
          obtain ⟨ks, h1, h2, _⟩ := hc
          simp only [RL] at ry
          obtain ⟨b', hk, hk2⟩ := kT_of (H := H) hh.sub q (PK.of hh.sub ry)
          subst hk
          have d := DGet.t h1 hk2
          rcases valV_tL k h2 with ⟨l1, l2⟩ | ⟨z, u, l1, l2, l3⟩
          · rw [l1] at e; cases e
          · rw [l1] at e; cases e
            rw [l2] at d
            exact .inr (.inr (.inr ⟨a, u, ev, d, p.here hh l3⟩))
      | ref _ => simp at e
      | tup _ => simp at e
      | exn _ => simp at e
    | ins C fs => simp at e
  | tup xs =>
    cases y with
    | pv b =>
      cases b <;> simp only [getI, reduceCtorEq] at e
      rename_i i
      cases q : atI xs i with
      | none => simp [q] at e
      | some z =>
        simp only [q, Option.some.injEq] at e
        subst e
        simp only [RL] at rx
        obtain ⟨a, vs, e1, e2, e3⟩ := rx
        obtain ⟨u, l1, l2⟩ := e3.at_ q
        simp only [RL, RP] at ry
        exact .inr (.inl ⟨a, vs, i, u, e1, ry, .inl (.inl (hh.sub _ _ e2)), l1, p.here hh l2⟩)
    | ref _ => simp [getI] at e
    | tup _ => simp [getI] at e
    | exn _ => simp [getI] at e
  | exn _ => simp only [RL] at rx

/-! ### truth -/
theorem rd_tru {p : PV} {b : Bool} {v : V} (s : Sub F H) (h : PK K F H p v) (e : tru p = some b) : TruV K v H b := by
  cases p <;> simp only [tru, Option.some.injEq, reduceCtorEq] at e
  case non => subst e; simp only [PK, RP] at h; subst h; rfl
  case bl c => subst e; simp only [PK, RP] at h; subst h; rfl
  case int i => subst e; rw [h.int]; rfl
  case str x =>
    split at e
    · rename_i hl
      simp only [Option.some.injEq] at e
      subst e
      rw [h.str.1]
      refine ⟨by rw [mkS_len, line_eq]; exact hl, ?_⟩
      rw [mkS_len]
      cases x <;> simp
      omega
    · cases e
  case lst xs =>
    subst e
    obtain ⟨a, vs, e1, e2, e3⟩ := h
    subst e1
    refine .inl ⟨vs, .inl (.inl e2), ?_⟩
    have := e3.length
    cases xs <;> cases vs <;> simp at this <;> rfl
  case tup xs =>
    subst e
    simp only [PK, RP] at h
    obtain ⟨a, vs, e1, e2, e3⟩ := h
    subst e1
    refine .inr (.inl ⟨vs, .inl (.inl (s _ _ e2)), ?_⟩)
    have := e3.length
    cases xs <;> cases vs <;> simp at this <;> rfl
  case dk kvs =>
    subst e
    obtain ⟨a, ks, e1, e2, e3⟩ := h
    subst e1
    refine .inr (.inr ⟨ks, e2, ?_⟩)
    cases kvs with
    | nil =>
      simp only [RPk] at e3
      subst e3; rfl
    | cons kv kvs =>
      obtain ⟨k, p⟩ := kv
      simp only [RPk] at e3
      obtain ⟨v, r, e4, _⟩ := e3
      subst e4; rfl
theorem rd_lenL {x : LV} {n : Nat} {v : V} (hh : HR' M K F ρ H st) (r : RL K F ρ x v) (e : lenL x st = some n) : ∃ a ws, v = .ref a ∧ ws.length = n ∧ (H a = some (.lst ws) ∨ H a = some (.tup ws)) := by
  unfold lenL at e
  split at e
  · rename_i m
    split at e
    · rename_i live xs hx
      simp only [Option.some.injEq] at e
      subst e
      simp only [RL] at r
      obtain ⟨a, ev, ea⟩ := r
      obtain ⟨c, ec, hc⟩ := hh.at ea
      rw [ec] at hx
      cases hx
      obtain ⟨ws, h1, h2, _⟩ := hc
      exact ⟨a, ws, ev, h2.length.symm, .inl h1⟩
    · cases e
  · rename_i xs
    simp only [Option.some.injEq] at e
    subst e
    simp only [RL] at r
    obtain ⟨a, ws, e1, e2, e3⟩ := r
    exact ⟨a, ws, e1, e3.length.symm, .inr (hh.sub _ _ e2)⟩
  · cases e
theorem rd_truL {x : LV} {b : Bool} {v : V} (hh : HR' M K F ρ H st) (r : RL K F ρ x v) (e : truL x st = some b) : TruV K v H b := by
  unfold truL at e
  split at e
  · rename_i n hn
    simp only [Option.some.injEq] at e
    subst e
    obtain ⟨a, ws, ev, hl, ho⟩ := rd_lenL hh r hn
    subst ev
    have hb : (n != 0) = !ws.isEmpty := by
      rw [← hl]
      cases ws <;> rfl
    rcases ho with ho | ho
    · exact .inl ⟨ws, .inl (.inl ho), hb⟩
    · exact .inr (.inl ⟨ws, .inl (.inl ho), hb⟩)
  · cases q : peek st x with
    | none => simp [q] at e
    | some p =>
      simp only [q] at e
      exact rd_tru hh.sub (peek_ok hh r q) e
end
end Z
end

section
/-! ZI: freezing, the store behind a call, what a def promises, builtins. -/
namespace Z
open PySem PySem.Spec PyProof.Rows L2
section
variable {M : Nm} {K : PySem.W.Frag} {W : WX} {σ : L2.St} {F F' H H' : Hp} {ρ ρ' : List Addr} {st : Store}
theorem frz_ok {x : LV} {p : PV} {st' : Store} {v : V} (h : HR' M K F ρ H st) (r : RL K F ρ x v) (e : frz x st = some (p, st')) :
    ∃ F', G F ρ H F' ρ H ∧ HR' M K F' ρ H st' ∧ RP K F' p v := by
  cases x with
  | pv q =>
    simp only [frz, Option.some.injEq, Prod.mk.injEq] at e
    obtain ⟨e1, e2⟩ := e
    subst e1 e2
    simp only [RL] at r
    exact ⟨F, G.refl F ρ H, h, r⟩
  | tup xs => simp [frz] at e
  | exn _ => simp [frz] at e
  | ref n =>
    simp only [RL] at r
    obtain ⟨a, ev, ea⟩ := r
    obtain ⟨c, ec, hc⟩ := h.at ea
    simp only [frz, ec] at e
    have base : ∀ (live : Bool) (o : HO), (live = true → F a = none) → (live = false → F a = some o) → F a = none ∨ F a = some o := fun live o h1 h2 => by
      cases live with
      | true => exact .inl (h1 rfl)
      | false => exact .inr (h2 rfl)
    have sb : ∀ o, F a = none ∨ F a = some o → Sub F (upd F a o) := fun o hF b u e => by
      by_cases hb : b = a
      · subst hb
        rcases hF with z | z
        · rw [z] at e; cases e
        · rw [z] at e; rw [upd_same]; exact e
      · rw [upd_ne hb]; exact e
    cases c with
    | lst live xs =>
      obtain ⟨vs, h1, h2, h3, h4⟩ := hc
      cases q : unpv xs with
      | none => simp [q] at e
      | some ps =>
        simp only [q, Option.some.injEq, Prod.mk.injEq] at e
        obtain ⟨e1, e2⟩ := e
        subst e1 e2
        have hF := base live _ h3 h4
        have hs := sb _ hF
        obtain ⟨g, hr⟩ := h.froze ea h1 (c := .lst false xs) hF ⟨vs, h1, RLs.mono hs (Pre.refl ρ) _ _ h2, ⟨fun z => Bool.noConfusion z, fun _ => upd_same⟩⟩
        refine ⟨_, g, hr, ?_⟩
        simp only [RP]
        rw [unpv_eq q] at h2
        exact ⟨a, vs, ev, upd_same, RPs.mono hs _ _ (RLs_pv.mp h2)⟩
    | dk live xs =>
      obtain ⟨vs, h1, h2, h3, h4⟩ := hc
      cases q : unpvK xs with
      | none => simp [q] at e
      | some ps =>
        simp only [q, Option.some.injEq, Prod.mk.injEq] at e
        obtain ⟨e1, e2⟩ := e
        subst e1 e2
        have hF := base live _ h3 h4
        have hs := sb _ hF
        obtain ⟨g, hr⟩ := h.froze ea h1 (c := .dk false xs) hF ⟨vs, h1, RLk.mono hs (Pre.refl ρ) h2, ⟨fun z => Bool.noConfusion z, fun _ => upd_same⟩⟩
        refine ⟨_, g, hr, ?_⟩
        simp only [RP]
        rw [unpvK_eq q] at h2
        exact ⟨a, vs, ev, upd_same, RPk.mono hs _ _ (RLk_pv.mp h2)⟩
    | dt live xs =>
      obtain ⟨vs, h1, h2, h3, h4⟩ := hc
      cases q : unpvK xs with
      | none => simp [q] at e
      | some ps =>
        simp only [q, Option.some.injEq, Prod.mk.injEq] at e
        obtain ⟨e1, e2⟩ := e
        subst e1 e2
        have hF := base live _ h3 h4
        have hs := sb _ hF
        obtain ⟨g, hr⟩ := h.froze ea h1 (c := .dt false xs) hF ⟨vs, h1, RLt.mono hs (Pre.refl ρ) h2, ⟨fun z => Bool.noConfusion z, fun _ => upd_same⟩⟩
        refine ⟨_, g, hr, ?_⟩
        simp only [RP]
        rw [unpvK_eq q] at h2
        exact ⟨a, vs, ev, upd_same, RPt.mono hs _ _ (RLt_pv.mp h2)⟩
    | ins C fs => simp at e

/-! ### a call that knows none of our cells -/
theorem HR.after (h : HR' M K F ρ H st) (sub : Sub F F') (keep : ∀ b o, H b = some o → H' b = some o) (new : ∀ b o, F' b = some o → F b = some o ∨ H b = none) (s : Sub F' H') :
    G F ρ H F' ρ H' ∧ HR' M K F' ρ H' st := by
  refine ⟨⟨sub, Pre.refl ρ, fun b o e _ => keep b o e, fun b o e => (new b o e).elim .inl fun z => .inr (.inl z), fun b hb => .inl hb, fun b hb => ?_⟩, ⟨s, h.len, h.nd, fun n a c e1 e2 => ?_⟩⟩
  · cases q : H b with
    | none => exact absurd q hb
    | some o => rw [keep b o q]; simp
  · have hc := h.cell n a c e1 e2
    obtain ⟨u, hu⟩ := hc.there
    refine hc.mono sub (Pre.refl ρ) (fun o e => keep a o e) fun e => ?_
    cases q : F' a with
    | none => rfl
    | some o =>
      rcases new a o q with z | z
      · rw [e] at z; cases z
      · rw [hu] at z; cases z

/-! ### cells go -/
mutual
theorem RL.below {n : Nat} : ∀ (x : LV) (v : V), below n x = true → RL K F ρ x v → RL K F (ρ.take n) x v
  | .pv p, v, _, h => by simpa only [RL] using h
  | .ref m, v, b, h => by
    simp only [RL] at h ⊢
    obtain ⟨a, e1, e2⟩ := h
    refine ⟨a, e1, ?_⟩
    simp only [Z.below, decide_eq_true_eq] at b
    rw [List.getElem?_take, if_pos b]
    exact e2
  | .tup xs, v, b, h => by
    simp only [RL] at h ⊢
    obtain ⟨a, vs, e1, e2, e3⟩ := h
    exact ⟨a, vs, e1, e2, RLs.below xs vs (by simpa [Z.below] using b) e3⟩
  | .exn _, v, b, h => by simp only [RL] at h
theorem RLs.below {n : Nat} : ∀ (xs : List LV) (vs : List V), belows n xs = true → RLs K F ρ xs vs → RLs K F (ρ.take n) xs vs
  | [], vs, _, h => by simpa only [RLs] using h
  | x :: xs, vs, b, h => by
    simp only [RLs] at h ⊢
    simp only [belows, Bool.and_eq_true] at b
    obtain ⟨v, r, e1, e2, e3⟩ := h
    exact ⟨v, r, e1, RL.below x v b.1 e2, RLs.below xs r b.2 e3⟩
end
theorem RLk.below {n : Nat} : ∀ {xs : List (Ky × LV)} {vs : List (Key × V)}, belows n (xs.map (·.2)) = true → RLk K F ρ xs vs → RLk K F (ρ.take n) xs vs
  | [], vs, _, h => by simpa only [RLk] using h
  | (k, x) :: xs, vs, b, h => by
    simp only [RLk] at h ⊢
    simp only [List.map_cons, belows, Bool.and_eq_true] at b
    obtain ⟨v, r, e1, e2, e3, e4⟩ := h
    exact ⟨v, r, e1, e2, RL.below x v b.1 e3, RLk.below b.2 e4⟩
theorem RLt.below {n : Nat} : ∀ {xs : List (List Ky × LV)} {vs : List (List Key × V)}, belows n (xs.map (·.2)) = true → RLt K F ρ xs vs → RLt K F (ρ.take n) xs vs
  | [], vs, _, h => by simpa only [RLt] using h
  | (k, x) :: xs, vs, b, h => by
    simp only [RLt] at h ⊢
    simp only [List.map_cons, belows, Bool.and_eq_true] at b
    obtain ⟨v, r, e1, e2, e3, e4⟩ := h
    exact ⟨v, r, e1, e2, RL.below x v b.1 e3, RLt.below b.2 e4⟩
theorem CR.below {n : Nat} {a : Addr} {c : Cell} (b : c.below n = true) (h : CR K F ρ M.cad M.fnm H a c) : CR K F (ρ.take n) M.cad M.fnm H a c := by
  cases c with
  | lst live xs => obtain ⟨vs, h1, h2, h3⟩ := h; exact ⟨vs, h1, RLs.below _ _ b h2, h3⟩
  | dk live xs => obtain ⟨vs, h1, h2, h3⟩ := h; exact ⟨vs, h1, RLk.below b h2, h3⟩
  | dt live xs => obtain ⟨vs, h1, h2, h3⟩ := h; exact ⟨vs, h1, RLt.below b h2, h3⟩
  | ins C fs => obtain ⟨dx, vs, h1, h2, h3⟩ := h; exact ⟨dx, vs, h1, RLs.below _ _ b h2, h3⟩
theorem trunc_ok {n : Nat} {ok : Bool} (hn : ρ.length = n) (g : G F ρ H F' ρ' H') (h : HR' M K F' ρ' H' st) :
    ∃ ρ2, G F ρ H F' ρ2 H' ∧ HR' M K F' ρ2 H' (trunc n ok st) ∧ (∀ x v, (ok = true → below n x = true) → RL K F' ρ' x v → RL K F' ρ2 x v) := by
  unfold trunc
  split
  · rename_i hc
    simp only [Bool.and_eq_true, List.all_eq_true] at hc
    refine ⟨ρ'.take n, ⟨g.sub, fun i a e => ?_, g.keep, g.new, fun b hb => g.newρ b (List.mem_of_mem_take hb), g.hold⟩, ⟨h.sub, by rw [List.length_take, List.length_take, h.len], h.nd.sublist (List.take_sublist _ _), fun i a c e1 e2 => ?_⟩,
      fun x v hb r => RL.below x v (hb hc.1) r⟩
    · have hi : i < n := by
        rw [← hn]
        exact (List.getElem?_eq_some_iff.mp e).1
      rw [List.getElem?_take, if_pos hi]
      exact g.pre i a e
    · have e1' : ρ'[i]? = some a := by
        rw [List.getElem?_take] at e1
        split at e1
        · exact e1
        · cases e1
      have e2' : st[i]? = some c := by
        rw [List.getElem?_take] at e2
        split at e2
        · exact e2
        · cases e2
      exact (h.cell i a c e1' e2').below (hc.2 c (List.mem_of_getElem? e2))
  · exact ⟨ρ', g, h, fun x v _ r => r⟩

/-! ### what a def promises -/
def spOf (M : Nm) (K : PySem.W.Frag) (cal : List LV → Store → Option ER) (n : Nat) : Sp := fun vs H Q E =>
  vs.length = n ∧ ∃ F ρ st args r, HR' M K F ρ H st ∧ RLs K F ρ args vs ∧ cal args st = some r ∧ PostE M K (fun cls d _ H => E cls d H) [] F ρ H Q r
theorem PostE.ex_tr {Q : VK} {e : Ex} {st st2 : Store} (p : PostE M K W σ F ρ H Q (.ex e st)) (h : ∀ F' ρ' H', G F ρ H F' ρ' H' → HR' M K F' ρ' H' st2 → ∃ ρ2, G F ρ H F' ρ2 H' ∧ HR' M K F' ρ2 H' st) : PostE M K W σ F ρ H Q (.ex e st2) := by
  intro F' ρ' H' cls d g h' x
  obtain ⟨ρ2, g2, h2⟩ := h F' ρ' H' g h'
  exact p F' ρ2 H' cls d g2 h2 x
theorem rd_call {S : Sem} {f n : Nat} {args : List LV} {vs : List V} {Q : VK} {res : ER} (hh : HR' M K F ρ H st) (ra : RLs K F ρ args vs) (hl : vs.length = n) (e : S.call f args st = some res) (post : PostE M K W σ F ρ H Q res) :
    spOf M K (S.cal f) n vs H Q (fun cls d H => W cls d σ H) := by
  refine ⟨hl, ?_⟩
  have shared : ∀ r0, S.cal f args st = some r0 → (match r0 with
      | .ok v st1 => res = .ok v (trunc st.length (below st.length v) st1)
      | .ex e st1 => res = .ex e (trunc st.length true st1)) → ∃ F ρ st args r, HR' M K F ρ H st ∧ RLs K F ρ args vs ∧ S.cal f args st = some r ∧ PostE M K (fun cls d _ H => W cls d σ H) [] F ρ H Q r := by
    intro r0 e0 hres
    refine ⟨F, ρ, st, args, r0, hh, ra, e0, ?_⟩
    cases r0 with
    | ok x st1 =>
      subst hres
      intro F' ρ' H' v g h r
      obtain ⟨ρ2, g2, h2, k2⟩ := trunc_ok (ok := below st.length x) hh.len g h
      exact post F' ρ2 H' v g2 h2 (k2 x v (fun z => z) r)
    | ex x st1 =>
      subst hres
      intro F' ρ' H' cls d g h r
      obtain ⟨ρ2, g2, h2, _⟩ := trunc_ok (ok := true) hh.len g h
      exact post F' ρ2 H' cls d g2 h2 r
  have isPure : ∀ ps, unpv args = some ps → (∃ r0, S.cal f args [] = some r0 ∧ match r0 with
      | .ok v st1 => ∃ p, frz v st1 = some p ∧ res = .ok (.pv p.1) st
      | .ex e _ => res = .ex e st) → ∃ F ρ st args r, HR' M K F ρ H st ∧ RLs K F ρ args vs ∧ S.cal f args st = some r ∧ PostE M K (fun cls d _ H => W cls d σ H) [] F ρ H Q r := by
    rintro ps eu ⟨r0, e0, hres⟩
    have ea := unpv_eq eu
    have ra0 : RLs K F [] args vs := by
      rw [ea] at ra ⊢
      exact RLs_pv.mpr (RLs_pv.mp ra)
    refine ⟨F, [], [], args, r0, ⟨hh.sub, rfl, List.nodup_nil, fun n a c e _ => by simp at e⟩, ra0, e0, ?_⟩
    cases r0 with
    | ok x st1 =>
      obtain ⟨p, ef, er⟩ := hres
      subst er
      intro F' ρ' H' v g h r
      obtain ⟨F2, g2, h2, r2⟩ := frz_ok h r (p := p.1) (st' := p.2) ef
      have g3 := g.trans g2
      obtain ⟨g4, h4⟩ := hh.after (F' := F2) (H' := H') g3.sub (fun b o e => g3.keep b o e (by simp)) (fun b o e => by
        rcases g3.new b o e with z | z | z
        · exact .inl z
        · exact .inr z
        · simp at z) h2.sub
      exact post F2 ρ H' v g4 h4 (by simp only [RL]; exact r2)
    | ex x st1 =>
      subst hres
      intro F' ρ' H' cls d g h r
      obtain ⟨g4, h4⟩ := hh.after (F' := F') (H' := H') g.sub (fun b o e => g.keep b o e (by simp)) (fun b o e => by
        rcases g.new b o e with z | z | z
        · exact .inl z
        · exact .inr z
        · simp at z) h.sub
      exact post F' ρ H' cls d g4 h4 r
  unfold Sem.call at e
  split at e
  · rename_i ps hs hu
    refine isPure ps hu ?_
    cases q : S.cal f args [] with
    | none => simp [q] at e
    | some r0 =>
      refine ⟨r0, rfl, ?_⟩
      cases r0 with
      | ok v st1 =>
        simp only [q, Option.map_eq_some_iff] at e
        obtain ⟨p, e1, e2⟩ := e
        exact ⟨p, e1, e2.symm⟩
      | ex x st1 =>
        simp only [q, Option.some.injEq] at e
        exact e.symm
  · cases q : S.cal f args st with
    | none => simp [q] at e
    | some r0 =>
      refine shared r0 q ?_
      cases r0 with
      | ok v st1 =>
        simp only [q, Option.some.injEq] at e
        exact e.symm
      | ex x st1 =>
        simp only [q, Option.some.injEq] at e
        exact e.symm
end

/-! ### builtins -/
section
variable {X : Cx}
def biName : BI → Str
  | .len => "len" | .abs => "abs" | .int => "int" | .list => "list" | .sum => "sum" | .all => "all" | .any => "any" | .repr => "repr" | .str => "str" | .max => "max" | .min => "min" | .sorted => "sorted" | .tuple => "tuple"
def biV : BI → Value
  | .len => .builtin "len" | .abs => .builtin "abs" | .int => .type "int" | .list => .type "list" | .sum => .builtin "sum" | .all => .builtin "all" | .any => .builtin "any" | .repr => .builtin "repr" | .str => .type "str" | .max => .builtin "max" | .min => .builtin "min" | .sorted => .builtin "sorted" | .tuple => .type "tuple"
theorem bi_boot : ∀ b : BI, bootBuiltins (biName b) = some (biV b)
  | .len => PySem.boot_len
  | .abs => by decide +kernel
  | .int => by decide +kernel
  | .list => by decide +kernel
  | .sum => by decide +kernel
  | .all => by decide +kernel
  | .any => by decide +kernel
  | .repr => by decide +kernel
  | .str => by decide +kernel
  | .max => by decide +kernel
  | .min => by decide +kernel
  | .sorted => by decide +kernel
  | .tuple => by decide +kernel
def rReprR (K : PySem.W.Frag) : List V → Hp → VK → Prop := fun xs H Q => ∃ a d, xs = [.ref a] ∧ Dp K H (.ref a) d ∧ d.showable = true ∧ d.hasDict = false ∧ d.depth ≤ maxDep ∧ d.shown.length ≤ sizeLine ∧ Q (.str d.shown) H
theorem call_reprR (hu : room2 X) (hg : X.A.guards = some []) : CallR X (.builtin "repr") (rReprR X.K) := by
  intro pins s σ H xs us Q I rs h
  obtain ⟨a, d, e, hd, h1, h2, h3, h4, q⟩ := h
  subst e
  obtain ⟨u, eu, ru⟩ := Vals.one rs
  subst eu
  obtain rfl : u = Value.ref a := ru
  obtain ⟨as, rd⟩ := Dp.reads I d (.ref a) (.ref a) hd rfl
  exact repr_of_reads' rd h1 (PyData.noDict_hsm h2) hg (by have h5 : X.A.units + 600 < cLine := hu; have h6 : maxDep = 500 := rfl; omega) (fun _ _ z => z) (fun h' u tk kp => ⟨.str d.shown, H, I.kept (h' := h') (t' := tk) kp, ⟨u, rfl⟩, q⟩) h4
def rReprV : List V → Hp → VK → Prop := fun xs H Q => (∃ x, xs = [.str x] ∧ (reprText x).length ≤ sizeLine ∧ Q (.str (reprText x)) H) ∨ (xs = [.non] ∧ Q (.str "None") H)
theorem call_reprV : CallR X (.builtin "repr") rReprV := by
  intro pins s σ H xs us Q I rs h
  rcases h with ⟨x, e, h4, q⟩ | ⟨e, q⟩
  · subst e
    obtain ⟨u, eu, ru⟩ := Vals.one rs
    subst eu
    obtain ⟨t, rfl⟩ : ∃ t, u = Value.str x t := ru
    exact call_repr_gives (typeIs_str s x t) F.slot_str_repr F.entry_str_repr (F.args_str_repr_1 _) (gives_str_repr x t) ⟨.str (reprText x), H, I.tok _, ⟨_, rfl⟩, q⟩ (hx := h4)
  · subst e
    obtain ⟨u, eu, ru⟩ := Vals.one rs
    subst eu
    obtain rfl : u = Value.none := ru
    exact call_repr_gives (typeIs_none s) F.slot_NoneType_repr F.entry_NoneType_repr (F.args_NoneType_repr_1 _) gives_none_repr ⟨.str "None", H, I.tok _, ⟨_, rfl⟩, q⟩ (hx := by decide)
def rRepr (K : PySem.W.Frag) : List V → Hp → VK → Prop := fun xs H Q => rReprR K xs H Q ∨ rReprV xs H Q
def rBI (K : PySem.W.Frag) : BI → List V → Hp → VK → Prop
  | .len => fun xs H Q => ∃ x n, xs = [x] ∧ LenV K x H n ∧ Q (.int n) H
  | .abs => fun xs H Q => ∃ i, xs = [.int i] ∧ Q (.int (if i < 0 then -i else i)) H
  | .int => fun xs H Q => ((∃ i, xs = [.int i] ∧ Q (.int i) H) ∨ ∃ k, xs = [.bl k] ∧ Q (.int (if k then 1 else 0)) H) ∨ ∃ a n, xs = [.str a] ∧ PySem.intText? a = some n ∧ a.length ≤ 640 ∧ Q (.int n) H
  | .list => fun xs H Q => ∃ p ys, xs = [.ref p] ∧ (SqL K H p ys ∨ SqT K H p ys) ∧ ∀ l, H l = none → Q (.ref l) (upd H l (.lst ys))
  | .sum => rSum K
  | .all => rAll K
  | .any => rAny K
  | .repr => rRepr K
  | .str => fun xs H Q => ∃ i : Int, xs = [.int i] ∧ i.natAbs.log2 < 1920 ∧ Q (.str (toString i)) H
  | .max => fun xs H Q => (∃ i j, xs = [.int i, .int j] ∧ Q (.int (if j > i then j else i)) H) ∨ rMax K xs H Q
  | .min => fun xs H Q => (∃ i j, xs = [.int i, .int j] ∧ Q (.int (if j < i then j else i)) H) ∨ rMin K xs H Q
  | .sorted => fun xs H Q => rSortedI K xs H Q ∨ rSortedS K xs H Q
  | .tuple => fun xs H Q => ∃ p ys, xs = [.ref p] ∧ ((SqL K H p ys ∧ ∀ l, H l = none → Q (.ref l) (upd H l (.tup ys))) ∨ (SqT K H p ys ∧ Q (.ref p) H))
def needsCalm : BI → Bool
  | .sum => true
  | .all => true
  | .any => true
  | .max => true
  | .min => true
  | _ => false
/-- what wants that nothing is being shown -/
def needsShow : BI → Bool
  | .repr => true
  | _ => false
theorem CallR.or {f : Value} {r r' : List V → Hp → VK → Prop} (h : CallR X f r) (h' : CallR X f r') : CallR X f fun xs H Q => r xs H Q ∨ r' xs H Q := fun pins s σ H xs us Q I rs q => q.elim (h pins s σ H xs us Q I rs) (h' pins s σ H xs us Q I rs)
theorem call_repr (hu : room2 X) (hg : X.A.guards = some []) : CallR X (.builtin "repr") (rRepr X.K) := CallR.or (call_reprR hu hg) call_reprV
theorem call_bi (hu : room2 X) : ∀ b : BI, (needsCalm b = true → X.calm = true) → (needsShow b = true → X.A.guards = some []) → CallR X (biV b) (rBI X.K b)
  | .len, _, _ => call_len
  | .abs, _, _ => call_abs
  | .int, _, _ => CallR.or call_int1 call_int_str
  | .list, _, _ => call_list_of
  | .sum, hc, _ => cr_sum (hc rfl)
  | .all, hc, _ => cr_all (hc rfl)
  | .any, hc, _ => cr_any (hc rfl)
  | .repr, _, hg => call_repr hu (hg rfl)
  | .str, _, _ => call_str_int
  | .max, hc, _ => CallR.or (call_max2 (hc rfl)) (cr_max (hc rfl))
  | .min, hc, _ => CallR.or (call_min2 (hc rfl)) (cr_min (hc rfl))
  | .sorted, _, _ => CallR.or cr_sortedI cr_sortedS
  | .tuple, _, _ => call_tuple_of
/-- a call of a builtin by its name, function or type -/
theorem pe_bi {b : BI} {p pos : Pos} {e : Expr} {es : List Expr} {t : TA} (hu : room2 X) (hc : needsCalm b = true → X.calm = true) (hgd : needsShow b = true → X.A.guards = some []) (hg : Gl X (biName b)) (hm : X.mg (biName b) = none) (ha : PA X (e :: es) t)
    (he : starEach (e :: es) X.env = (false, eval e X.env) :: starEach es X.env) (hpl : (backTo pos (starEach es X.env)).any (·.1) = false) : PE X (.Call (.Name (biName b) p) (e :: es) [] pos) (tCB (rBI X.K b) t) := by
  cases b with
  | len => exact pe_callB (call_bi hu .len hc hgd) hg hm (bi_boot .len) ha (by decide) (by decide) he hpl
  | abs => exact pe_callB (call_bi hu .abs hc hgd) hg hm (bi_boot .abs) ha (by decide) (by decide) he hpl
  | int => exact pe_callTy (call_bi hu .int hc hgd) hg hm (bi_boot .int) ha (by decide) (by decide) he hpl
  | list => exact pe_callTy (call_bi hu .list hc hgd) hg hm (bi_boot .list) ha (by decide) (by decide) he hpl
  | sum => exact pe_callB (call_bi hu .sum hc hgd) hg hm (bi_boot .sum) ha (by decide) (by decide) he hpl
  | all => exact pe_callB (call_bi hu .all hc hgd) hg hm (bi_boot .all) ha (by decide) (by decide) he hpl
  | repr => exact pe_callB (call_bi hu .repr hc hgd) hg hm (bi_boot .repr) ha (by decide) (by decide) he hpl
  | str => exact pe_callTy (call_bi hu .str hc hgd) hg hm (bi_boot .str) ha (by decide) (by decide) he hpl
  | tuple => exact pe_callTy (call_bi hu .tuple hc hgd) hg hm (bi_boot .tuple) ha (by decide) (by decide) he hpl
  | max => exact pe_callB (call_bi hu .max hc hgd) hg hm (bi_boot .max) ha (by decide) (by decide) he hpl
  | min => exact pe_callB (call_bi hu .min hc hgd) hg hm (bi_boot .min) ha (by decide) (by decide) he hpl
  | sorted => exact pe_callB (call_bi hu .sorted hc hgd) hg hm (bi_boot .sorted) ha (by decide) (by decide) he hpl
  | any => exact pe_callB (call_bi hu .any hc hgd) hg hm (bi_boot .any) ha (by decide) (by decide) he hpl
end
section
variable {M : Nm} {K : PySem.W.Frag} {W : WX} {σ : L2.St} {F F' H H' : Hp} {ρ ρ' : List Addr} {st : Store}
def PKs (K : PySem.W.Frag) (F H : Hp) : List PV → List V → Prop
  | [], vs => vs = []
  | x :: xs, vs => ∃ v r, vs = v :: r ∧ PK K F H x v ∧ PKs K F H xs r
theorem peeks_ok (hh : HR' M K F ρ H st) : ∀ {xs : List LV} {vs : List V} {ps : List PV}, RLs K F ρ xs vs → peeks st xs = some ps → PKs K F H ps vs
  | [], vs, ps, r, e => by
    simp only [peeks, Option.some.injEq] at e
    subst e
    simp only [RLs] at r
    exact r
  | x :: xs, vs, ps, r, e => by
    simp only [RLs] at r
    obtain ⟨v, s, e1, e2, e3⟩ := r
    subst e1
    unfold peeks at e
    cases q : peek st x with
    | none => simp [q] at e
    | some p =>
      simp only [q, Option.map_eq_some_iff] at e
      obtain ⟨ps', e4, e5⟩ := e
      subst e5
      exact ⟨v, s, rfl, peek_ok hh e2 q, peeks_ok hh e3 e4⟩
theorem ints_vals : ∀ {ps : List PV} {ns : List Int} {vs : List V}, intsOf ps = some ns → RPs K F ps vs → vs = ns.map V.int
  | [], ns, vs, e, h => by
    simp [intsOf] at e; subst e
    simp only [RPs] at h
    exact h
  | .int i :: ps, ns, vs, e, h => by
    simp only [intsOf, Option.map_eq_some_iff] at e
    obtain ⟨ms, e1, e2⟩ := e
    subst e2
    simp only [RPs, RP] at h
    obtain ⟨v, r, h1, h2, h3⟩ := h
    subst h1 h2
    rw [ints_vals e1 h3]; rfl
  | .non :: _, _, _, e, _ => by simp [intsOf] at e
  | .bl _ :: _, _, _, e, _ => by simp [intsOf] at e
  | .str _ :: _, _, _, e, _ => by simp [intsOf] at e
  | .tup _ :: _, _, _, e, _ => by simp [intsOf] at e
  | .lst _ :: _, _, _, e, _ => by simp [intsOf] at e
  | .dk _ :: _, _, _, e, _ => by simp [intsOf] at e
  | .dt _ :: _, _, _, e, _ => by simp [intsOf] at e
  | .scr _ :: _, _, _, e, _ => by simp [intsOf] at e
theorem bools_vals : ∀ {ps : List PV} {ns : List Bool} {vs : List V}, boolsOf ps = some ns → RPs K F ps vs → vs = ns.map V.bl
  | [], ns, vs, e, h => by
    simp [boolsOf] at e; subst e
    simp only [RPs] at h
    exact h
  | .bl i :: ps, ns, vs, e, h => by
    simp only [boolsOf, Option.map_eq_some_iff] at e
    obtain ⟨ms, e1, e2⟩ := e
    subst e2
    simp only [RPs, RP] at h
    obtain ⟨v, r, h1, h2, h3⟩ := h
    subst h1 h2
    rw [bools_vals e1 h3]; rfl
  | .non :: _, _, _, e, _ => by simp [boolsOf] at e
  | .int _ :: _, _, _, e, _ => by simp [boolsOf] at e
  | .str _ :: _, _, _, e, _ => by simp [boolsOf] at e
  | .tup _ :: _, _, _, e, _ => by simp [boolsOf] at e
  | .lst _ :: _, _, _, e, _ => by simp [boolsOf] at e
  | .dk _ :: _, _, _, e, _ => by simp [boolsOf] at e
  | .dt _ :: _, _, _, e, _ => by simp [boolsOf] at e
  | .scr _ :: _, _, _, e, _ => by simp [boolsOf] at e
theorem PKs.one {p : PV} {vs : List V} (h : PKs K F H [p] vs) : ∃ v, vs = [v] ∧ PK K F H p v := by
  obtain ⟨v, r, e1, e2, e3⟩ := h
  have e3' : r = [] := e3
  subst e3'
  exact ⟨v, e1, e2⟩
theorem RPs_ints : ∀ ns : List Int, RPs K F (ns.map .int) (ns.map V.int)
  | [] => by simp [RPs]
  | n :: ns => by
    simp only [List.map_cons, RPs]
    exact ⟨_, _, rfl, by simp only [RP], RPs_ints ns⟩
/-! ### sorting -/
theorem insA_perm {α : Type} (le : α → α → Bool) (x : α) : ∀ ys : List α, (insA le x ys).Perm (x :: ys)
  | [] => .refl _
  | y :: ys => by
    unfold insA
    split
    · exact .refl _
    · exact ((insA_perm le x ys).cons y).trans (.swap x y ys)
theorem srtA_perm {α : Type} (le : α → α → Bool) : ∀ xs : List α, (srtA le xs).Perm xs
  | [] => .refl _
  | x :: xs => (insA_perm le x _).trans ((srtA_perm le xs).cons x)
theorem insA_srt {α : Type} {le : α → α → Bool} (tot : ∀ a b, le a b = true ∨ le b a = true) (tr : ∀ a b c, le a b = true → le b c = true → le a c = true) (x : α) : ∀ {ys : List α}, ys.Pairwise (fun a b => le a b = true) → (insA le x ys).Pairwise fun a b => le a b = true
  | [], _ => by simp [insA]
  | y :: ys, h => by
    unfold insA
    obtain ⟨h1, h2⟩ := List.pairwise_cons.mp h
    split
    · rename_i hx
      refine List.pairwise_cons.mpr ⟨fun z hz => ?_, h⟩
      rcases List.mem_cons.mp hz with e | e
      · rw [e]; exact hx
      · exact tr _ _ _ hx (h1 z e)
    · rename_i hx
      refine List.pairwise_cons.mpr ⟨fun z hz => ?_, insA_srt tot tr x h2⟩
      rcases List.mem_cons.mp ((insA_perm le x ys).mem_iff.mp hz) with e | e
      · rw [e]; exact (tot x y).resolve_left hx
      · exact h1 z e
theorem srtA_srt {α : Type} {le : α → α → Bool} (tot : ∀ a b, le a b = true ∨ le b a = true) (tr : ∀ a b c, le a b = true → le b c = true → le a c = true) : ∀ xs : List α, (srtA le xs).Pairwise fun a b => le a b = true
  | [] => by simp [srtA]
  | x :: xs => insA_srt tot tr x (srtA_srt tot tr xs)
/-- what is sorted is one list -/
theorem srt_uniq {α : Type} {le : α → α → Bool} (anti : ∀ a b, le a b = true → le b a = true → a = b) : ∀ {xs ys : List α}, xs.Perm ys → xs.Pairwise (fun a b => le a b = true) → ys.Pairwise (fun a b => le a b = true) → xs = ys
  | [], ys, p, _, _ => (List.nil_perm.mp p).symm
  | x :: xs, [], p, _, _ => by simpa using p.length_eq
  | x :: xs, y :: ys, p, hx, hy => by
    obtain ⟨h1, h2⟩ := List.pairwise_cons.mp hx
    obtain ⟨h3, h4⟩ := List.pairwise_cons.mp hy
    have e : x = y := by
      by_cases e : x = y
      · exact e
      have m1 : x ∈ y :: ys := p.mem_iff.mp (by simp)
      have m2 : y ∈ x :: xs := p.mem_iff.mpr (by simp)
      rcases List.mem_cons.mp m1 with z | z
      · exact z
      · rcases List.mem_cons.mp m2 with w | w
        · exact w.symm
        · exact anti _ _ (h1 y w) (h3 x z)
    subst e
    rw [srt_uniq anti p.cons_inv h2 h4]
theorem leS_tot (a b : Sg) : decide (a ≤ b) = true ∨ decide (b ≤ a) = true := by
  simp only [decide_eq_true_eq]
  exact List.le_total a b
theorem leS_tr (a b c : Sg) (h : decide (a ≤ b) = true) (h' : decide (b ≤ c) = true) : decide (a ≤ c) = true := by
  simp only [decide_eq_true_eq] at *
  exact List.le_trans h h'
theorem leS_anti (a b : Sg) (h : decide (a ≤ b) = true) (h' : decide (b ≤ a) = true) : a = b := by
  simp only [decide_eq_true_eq] at *
  exact List.le_antisymm h h'
theorem srtI_of {ns ns' : List Int} (p : ns'.Perm ns) (h : ns'.Pairwise (· ≤ ·)) : ns' = srtI ns := by
  refine srt_uniq (le := fun a b => decide (a ≤ b)) (fun a b h h' => ?_) (p.trans (srtA_perm _ ns).symm) (by simpa using h) (srtA_srt (fun a b => ?_) (fun a b c h h' => ?_) ns)
  · simp only [decide_eq_true_eq] at h h'; omega
  · simp only [decide_eq_true_eq]; omega
  · simp only [decide_eq_true_eq] at h h' ⊢; omega
theorem risingS_pw : ∀ (ss : List Sg) (p : Sg), PyProof.Rows.risingS (mkS p) (ss.map mkS) = true → (∀ s ∈ ss, p ≤ s) ∧ ss.Pairwise fun a b => decide (a ≤ b) = true
  | [], _, _ => ⟨fun s h => by simp at h, List.Pairwise.nil⟩
  | s :: ss, p, h => by
    have h' : (!PySem.Spec.ltCps s p && PyProof.Rows.risingS (mkS s) (ss.map mkS)) = true := h
    rw [Bool.and_eq_true, PyProof.Rows.ltCps_eq] at h'
    obtain ⟨h1, h2⟩ := h'
    have le : p ≤ s := by
      have : ¬ s < p := by simpa using h1
      exact List.not_lt.mp this
    obtain ⟨k1, k2⟩ := risingS_pw ss s h2
    refine ⟨fun z hz => ?_, List.pairwise_cons.mpr ⟨fun z hz => decide_eq_true (k1 z hz), k2⟩⟩
    rcases List.mem_cons.mp hz with e | e
    · rw [e]; exact le
    · exact List.le_trans le (k1 z e)
theorem sortedS_pw : ∀ ss : List Sg, PyProof.Rows.sortedS (ss.map mkS) = true → ss.Pairwise fun a b => decide (a ≤ b) = true
  | [], _ => List.Pairwise.nil
  | s :: ss, h => by
    obtain ⟨k1, k2⟩ := risingS_pw ss s h
    exact List.pairwise_cons.mpr ⟨fun z hz => decide_eq_true (k1 z hz), k2⟩
theorem mkS_inj0 {x y : Sg} (h : mkS x = mkS y) : x = y := by
  have := congrArg (fun s : Str => s.cps.toList) h
  simpa [mkS] using this
theorem mkS_cps0 (x : Str) : mkS x.cps.toList = x := by
  unfold mkS
  cases x
  simp
theorem srtS_of {ss : List Sg} {ys : List Str} (p : ys.Perm (ss.map mkS)) (h : PyProof.Rows.sortedS ys = true) : ys = (srtS ss).map mkS := by
  have e : ys = (ys.map fun y => y.cps.toList).map mkS := by
    rw [List.map_map]
    conv => lhs; rw [← List.map_id ys]
    exact List.map_congr_left fun y _ => (mkS_cps0 y).symm
  rw [e] at h ⊢
  have p2 : (ys.map fun y => y.cps.toList).Perm ss := by
    have := p.map fun y : Str => y.cps.toList
    rw [List.map_map] at this
    have e2 : ss.map ((fun y : Str => y.cps.toList) ∘ mkS) = ss := by
      conv => rhs; rw [← List.map_id ss]
      exact List.map_congr_left fun y _ => by simp [mkS]
    rwa [e2] at this
  exact congrArg _ (srt_uniq leS_anti (p2.trans (srtA_perm _ ss).symm) (sortedS_pw _ h) (srtA_srt leS_tot leS_tr ss))
theorem strs_valsI : ∀ {ps : List PV} {ss : List Sg} {vs : List V}, strsOf ps = some ss → RPs K F ps vs → vs = (ss.map mkS).map V.str ∧ ∀ s ∈ ss, okS s = true
  | [], ss, vs, e, h => by
    simp only [strsOf, Option.some.injEq] at e
    subst e
    simp only [RPs] at h
    exact ⟨h, fun _ q => by simp at q⟩
  | .str s :: ps, ss, vs, e, h => by
    simp only [strsOf, Option.map_eq_some_iff] at e
    obtain ⟨ms, e1, e2⟩ := e
    subst e2
    simp only [RPs, RP] at h
    obtain ⟨v, r, h1, h2, h3⟩ := h
    obtain ⟨k1, k2⟩ := strs_valsI e1 h3
    subst h1 k1
    refine ⟨by rw [h2.1]; rfl, fun z hz => ?_⟩
    rcases List.mem_cons.mp hz with q | q
    · rw [q]; exact h2.2
    · exact k2 z q
  | .non :: _, _, _, e, _ => by simp [strsOf] at e
  | .bl _ :: _, _, _, e, _ => by simp [strsOf] at e
  | .int _ :: _, _, _, e, _ => by simp [strsOf] at e
  | .tup _ :: _, _, _, e, _ => by simp [strsOf] at e
  | .lst _ :: _, _, _, e, _ => by simp [strsOf] at e
  | .dk _ :: _, _, _, e, _ => by simp [strsOf] at e
  | .dt _ :: _, _, _, e, _ => by simp [strsOf] at e
  | .scr _ :: _, _, _, e, _ => by simp [strsOf] at e
theorem RPs_strs : ∀ ss : List Sg, (∀ s ∈ ss, okS s = true) → RPs K F (ss.map .str) ((ss.map mkS).map V.str)
  | [], _ => by simp [RPs]
  | s :: ss, h => by
    simp only [List.map_cons, RPs]
    exact ⟨_, _, rfl, by simp only [RP, true_and]; exact h s (by simp), RPs_strs ss fun z hz => h z (by simp [hz])⟩
theorem foldl_max : ∀ (ns : List Int) (n : Int), (ns.foldl max n = n ∨ ns.foldl max n ∈ ns) ∧ n ≤ ns.foldl max n ∧ ∀ y ∈ ns, y ≤ ns.foldl max n
  | [], n => ⟨.inl rfl, Int.le_refl _, fun y h => by simp at h⟩
  | m :: ns, n => by
    obtain ⟨h1, h2, h3⟩ := foldl_max ns (max n m)
    simp only [List.foldl_cons]
    refine ⟨?_, by omega, fun y hy => ?_⟩
    · rcases h1 with h | h
      · rw [h]
        by_cases z : n ≤ m
        · rw [Int.max_eq_right z]; exact .inr (by simp)
        · rw [Int.max_eq_left (by omega)]; exact .inl rfl
      · exact .inr (by simp [h])
    · rcases List.mem_cons.mp hy with e | e
      · subst e; omega
      · exact h3 y e
theorem foldl_min : ∀ (ns : List Int) (n : Int), (ns.foldl min n = n ∨ ns.foldl min n ∈ ns) ∧ ns.foldl min n ≤ n ∧ ∀ y ∈ ns, ns.foldl min n ≤ y
  | [], n => ⟨.inl rfl, Int.le_refl _, fun y h => by simp at h⟩
  | m :: ns, n => by
    obtain ⟨h1, h2, h3⟩ := foldl_min ns (min n m)
    simp only [List.foldl_cons]
    refine ⟨?_, by omega, fun y hy => ?_⟩
    · rcases h1 with h | h
      · rw [h]
        by_cases z : n ≤ m
        · rw [Int.min_eq_left z]; exact .inl rfl
        · rw [Int.min_eq_right (by omega)]; exact .inr (by simp)
      · exact .inr (by simp [h])
    · rcases List.mem_cons.mp hy with e | e
      · subst e; omega
      · exact h3 y e
theorem PKs.two {p q : PV} {vs : List V} (h : PKs K F H [p, q] vs) : ∃ v w, vs = [v, w] ∧ PK K F H p v ∧ PK K F H q w := by
  obtain ⟨v, r, e1, e2, w, r', e3, e4, e5⟩ := h
  have e5' : r' = [] := e5
  subst e5' e3
  exact ⟨v, w, e1, e2, e4⟩
theorem rd_bi {b : BI} {ps : List PV} {z : PV} {vs : List V} {Q : VK} (hh : HR' M K F ρ H st) (h : PKs K F H ps vs) (e : doBI b ps = some z) (post : PostE M K W σ F ρ H Q (.ok (.pv z) st)) : rBI K b vs H Q := by
  unfold doBI at e
  split at e
  · simp only [Option.some.injEq] at e; subst e
    obtain ⟨v, e1, a, ws, e2, e3, e4⟩ := h.one
    subst e1 e2
    exact ⟨_, _, rfl, .inl ⟨ws, .inl (.inl e3), rfl⟩, by rw [← e4.length]; exact post.tree hh (by simp only [RP])⟩
  · simp only [Option.some.injEq] at e; subst e
    obtain ⟨v, e1, e2⟩ := h.one
    simp only [PK, RP] at e2
    obtain ⟨a, ws, e2, e3, e4⟩ := e2
    subst e1 e2
    exact ⟨_, _, rfl, .inr ⟨ws, .inl (.inl (hh.sub _ _ e3)), rfl⟩, by rw [← e4.length]; exact post.tree hh (by simp only [RP])⟩
  · split at e
    · rename_i hl
      simp only [Option.some.injEq] at e; subst e
      obtain ⟨v, e1, e2⟩ := h.one
      subst e1
      obtain ⟨e3, _⟩ := e2.str
      subst e3
      refine ⟨_, (mkS _).length, rfl, ⟨by rw [mkS_len, line_eq]; exact hl, rfl⟩, ?_⟩
      rw [mkS_len]
      exact post.tree hh (by simp only [RP])
    · cases e
  · simp only [Option.some.injEq] at e; subst e
    obtain ⟨v, e1, e2⟩ := h.one
    subst e1
    exact ⟨_, by rw [e2.int], post.tree hh (by simp only [RP])⟩
  · simp only [Option.some.injEq] at e; subst e
    obtain ⟨v, e1, e2⟩ := h.one
    subst e1
    exact .inl (.inl ⟨_, by rw [e2.int], post.tree hh (by simp only [RP])⟩)
  · simp only [Option.some.injEq] at e; subst e
    obtain ⟨v, e1, e2⟩ := h.one
    simp only [PK, RP] at e2
    subst e1 e2
    exact .inl (.inr ⟨_, rfl, post.tree hh (by simp only [RP])⟩)
  · split at e
    · rename_i hl
      obtain ⟨v, e1, e2⟩ := h.one
      subst e1
      obtain ⟨e3, _⟩ := e2.str
      subst e3
      obtain ⟨i, hi, e4⟩ := Option.map_eq_some_iff.mp e
      subst e4
      exact .inr ⟨_, i, rfl, hi, by rw [mkS_len]; exact hl, post.tree hh (by simp only [RP])⟩
    · cases e
  · simp only [Option.some.injEq] at e; subst e
    obtain ⟨v, e1, a, ws, e2, e3, e4⟩ := h.one
    subst e1 e2
    refine ⟨a, ws, rfl, .inl (.inl (.inl e3)), fun l nl => post.made hh nl ?_⟩
    simp only [RP]
    exact ⟨l, ws, rfl, upd_same, RPs.mono (sub_upd (hh.fresh nl)) _ _ e4⟩
  · simp only [Option.some.injEq] at e; subst e
    obtain ⟨v, e1, e2⟩ := h.one
    simp only [PK, RP] at e2
    obtain ⟨a, ws, e2, e3, e4⟩ := e2
    subst e1 e2
    refine ⟨a, ws, rfl, .inr (.inl (.inl (hh.sub _ _ e3))), fun l nl => post.made hh nl ?_⟩
    simp only [RP]
    exact ⟨l, ws, rfl, upd_same, RPs.mono (sub_upd (hh.fresh nl)) _ _ e4⟩
  · simp only [Option.some.injEq] at e; subst e
    obtain ⟨v, e1, e2⟩ := h.one
    simp only [PK, RP] at e2
    obtain ⟨a, e2, e3⟩ := e2
    subst e1 e2
    refine ⟨a, _, rfl, .inl (hh.sub.sqL e3), fun l nl => post.made hh nl ?_⟩
    simp only [RP]
    exact ⟨l, _, rfl, upd_same, RPs_ints _⟩
  · simp only [Option.map_eq_some_iff] at e
    obtain ⟨ns, e0, e1⟩ := e
    subst e1
    obtain ⟨v, e1, a, ws, e2, e3, e4⟩ := h.one
    subst e1 e2
    have := ints_vals e0 e4
    subst this
    exact ⟨a, ns, rfl, .inl (.inl e3), post.tree hh (by simp only [RP])⟩
  · simp only [Option.map_eq_some_iff] at e
    obtain ⟨ns, e0, e1⟩ := e
    subst e1
    obtain ⟨v, e1, a, ws, e2, e3, e4⟩ := h.one
    subst e1 e2
    have := bools_vals e0 e4
    subst this
    exact ⟨a, ns, rfl, .inl (.inl e3), post.tree hh (by simp only [RP])⟩
  · simp only [Option.map_eq_some_iff] at e
    obtain ⟨ns, e0, e1⟩ := e
    subst e1
    obtain ⟨v, e1, a, ws, e2, e3, e4⟩ := h.one
    subst e1 e2
    have := bools_vals e0 e4
    subst this
    exact ⟨a, ns, rfl, .inl (.inl e3), post.tree hh (by simp only [RP])⟩
  · rename_i p
    unfold doRepr at e
    simp only at e
    split at e
    · rename_i hc
      simp only [Option.some.injEq] at e
      subst e
      simp only [Bool.and_eq_true, decide_eq_true_eq] at hc
      obtain ⟨⟨⟨⟨⟨c1, c2⟩, c3⟩, c4⟩, c5⟩, c6⟩ := hc
      obtain ⟨v, e1, e2⟩ := h.one
      subst e1
      obtain ⟨d1, d2⟩ := e2.dp hh.sub c2
      have es : (toD p).shown = mkS (shown p) := by
        unfold shown mkS
        cases (toD p).shown
        simp
      have ra : (∃ a, v = .ref a) ∨ (∃ x, p = .str x ∧ v = .str (mkS x)) ∨ (p = .non ∧ v = .non) := by
        cases p <;> simp only [isSq, Bool.false_eq_true] at c1
        · exact .inr (.inr ⟨rfl, e2⟩)
        · exact .inr (.inl ⟨_, rfl, e2.1⟩)
        · obtain ⟨a, _, e3, _⟩ := (show RP K F (.tup _) v from e2)
          exact .inl ⟨a, e3⟩
        · obtain ⟨a, _, e3, _⟩ := e2
          exact .inl ⟨a, e3⟩
      rcases ra with ⟨a, ea⟩ | ⟨x, ep, ea⟩ | ⟨ep, ea⟩
      · subst ea
        refine .inl ⟨a, toD p, rfl, d1, c4, PyData.hasDict_of_canLay _ d2, by rw [depth_toD]; exact c3, ?_, ?_⟩
        · rw [es, mkS_len, line_eq]; exact c6
        · rw [es]
          exact post.tree hh (by simp only [RP, true_and]; exact c5)
      · subst ep ea
        have er : reprText (mkS x) = mkS (shown (.str x)) := es
        refine .inr (.inl ⟨mkS x, rfl, ?_, ?_⟩)
        · rw [er, mkS_len, line_eq]; exact c6
        · rw [er]
          exact post.tree hh (by simp only [RP, true_and]; exact c5)
      · subst ep ea
        have er : ("None" : PySem.Str) = mkS (shown .non) := es
        refine .inr (.inr ⟨rfl, ?_⟩)
        rw [er]
        exact post.tree hh (by simp only [RP, true_and]; exact c5)
    · cases e
  · split at e
    · rename_i hc
      simp only [Option.some.injEq] at e
      subst e
      obtain ⟨v, e1, e2⟩ := h.one
      subst e1
      refine ⟨_, by rw [e2.int], hc.1, ?_⟩
      refine post.tree hh ?_
      simp only [RP]
      exact ⟨by rw [show mkS (numS _) = _ from mkS_cps0 _], hc.2⟩
    · cases e
  · simp only [Option.some.injEq] at e; subst e
    obtain ⟨v, w, e1, e2, e3⟩ := h.two
    subst e1
    refine .inl ⟨_, _, by rw [e2.int, e3.int], ?_⟩
    refine post.tree hh ?_
    simp only [RP]
    congr 1
    split <;> omega
  · simp only [Option.some.injEq] at e; subst e
    obtain ⟨v, w, e1, e2, e3⟩ := h.two
    subst e1
    refine .inl ⟨_, _, by rw [e2.int, e3.int], ?_⟩
    refine post.tree hh ?_
    simp only [RP]
    congr 1
    split <;> omega
  · split at e
    · rename_i n ns hi
      simp only [Option.some.injEq] at e; subst e
      obtain ⟨v, e1, a, ws, e2, e3, e4⟩ := h.one
      subst e1 e2
      have := ints_vals hi e4
      subst this
      refine .inr ⟨a, n :: ns, rfl, .inl (.inl e3), by simp, fun m hm hle => post.tree hh ?_⟩
      simp only [RP]
      obtain ⟨h1, h2, h3⟩ := foldl_max ns n
      have hu : maxI (n :: ns) = ns.foldl max n := rfl
      have mem : ns.foldl max n ∈ n :: ns := by
        rcases h1 with z | z
        · rw [z]; simp
        · simp [z]
      have l1 := hle _ mem
      have l2 : m ≤ ns.foldl max n := by
        rcases List.mem_cons.mp hm with z | z
        · rw [z]; exact h2
        · exact h3 _ z
      rw [hu]
      congr 1
      omega
    · cases e
  · split at e
    · rename_i n ns hi
      simp only [Option.some.injEq] at e; subst e
      obtain ⟨v, e1, a, ws, e2, e3, e4⟩ := h.one
      subst e1 e2
      have := ints_vals hi e4
      subst this
      refine .inr ⟨a, n :: ns, rfl, .inl (.inl e3), by simp, fun m hm hle => post.tree hh ?_⟩
      simp only [RP]
      obtain ⟨h1, h2, h3⟩ := foldl_min ns n
      have hu : minI (n :: ns) = ns.foldl min n := rfl
      have mem : ns.foldl min n ∈ n :: ns := by
        rcases h1 with z | z
        · rw [z]; simp
        · simp [z]
      have l1 := hle _ mem
      have l2 : ns.foldl min n ≤ m := by
        rcases List.mem_cons.mp hm with z | z
        · rw [z]; exact h2
        · exact h3 _ z
      rw [hu]
      congr 1
      omega
    · cases e
  · rename_i xs
    unfold doSort at e
    obtain ⟨v, e1, a, ws, e2, e3, e4⟩ := h.one
    subst e1 e2
    split at e
    · rename_i ns hi
      simp only [Option.some.injEq] at e; subst e
      have := ints_vals hi e4
      subst this
      refine .inl ⟨a, ns, rfl, .inl (.inl e3), fun ns' p hp hs np => post.made hh np ?_⟩
      rw [srtI_of hp hs]
      simp only [RP]
      exact ⟨p, _, rfl, upd_same, RPs_ints _⟩
    · split at e
      · rename_i ss hi
        split at e
        · rename_i hl
          simp only [Option.some.injEq] at e; subst e
          obtain ⟨e5, e6⟩ := strs_valsI hi e4
          subst e5
          refine .inr ⟨a, ss.map mkS, rfl, .inl (.inl e3), by simpa using hl, fun ys p hp hs np => post.made hh np ?_⟩
          rw [srtS_of hp hs]
          simp only [RP]
          exact ⟨p, _, rfl, upd_same, RPs_strs _ fun z hz => e6 z ((srtA_perm _ ss).mem_iff.mp hz)⟩
        · cases e
      · cases e
  · simp only [Option.some.injEq] at e; subst e
    obtain ⟨v, e1, a, ws, e2, e3, e4⟩ := h.one
    subst e1 e2
    refine ⟨a, ws, rfl, .inl ⟨.inl (.inl e3), fun l nl => post.made hh nl ?_⟩⟩
    simp only [RP]
    exact ⟨l, ws, rfl, upd_same, RPs.mono (sub_upd (hh.fresh nl)) _ _ e4⟩
  · simp only [Option.some.injEq] at e; subst e
    obtain ⟨v, e1, e2⟩ := h.one
    simp only [PK] at e2
    have e2' := e2
    simp only [RP] at e2
    obtain ⟨a, ws, e3, e4, e5⟩ := e2
    subst e1 e3
    exact ⟨a, ws, rfl, .inr ⟨.inl (.inl (hh.sub _ _ e4)), post.tree hh e2'⟩⟩
  · cases e
end
end Z
end

section
/-! ZJ: the look that a def of the text is what the small AST says. -/
namespace Z
open PySem L2
/-- a class: its name, its fields -/
structure CI where
  name : Str
  fields : List Nat
  /-- methods: name, def, how many parameters -/
  meths : List (Str × Nat × Nat) := []
/-- an error class: its name, parameters, fields from parameters (the last one set ahead) -/
structure EI where
  name : Str
  np : Nat
  fl : List (Nat × Nat)
structure Tab where
  defs : List (Option Str × Nat)
  glbs : List Str
  fnames : List Str := []
  cls : List CI := []
  errs : List EI := []
  /-- defs that may be called within an except suite -/
  hots : List Nat := []
  tabs : List Str := []
  dtabs : List Str := []
/-- what a method may be asked of: no super() -/
def plainO : Expr → Bool
  | .Call (.Name x _) [] _ _ => x != ("super" : Str)
  | .Call _ [] _ _ => false
  | _ => true
structure SC where
  N : List Str
  sc : Scope
  fn : Str → Bool
  T : Tab
  /-- within an except suite; the slot of its name -/
  hot : Bool := false
  exn : Option Nat := none
  /-- not within a comprehension -/
  top : Bool := true
def gl? (g : SC) (x : Str) : Bool := decide (g.sc.names.lookup x = some .globalImplicit) && !(x == ("__debug__" : Str))
def vis? (g : SC) (x : Str) : Bool := (match g.sc.names.lookup x with
  | some .local | some .cell | some .free => true
  | _ => false) && !(x == ("__debug__" : Str)) && !(x == ("__classdict__" : Str))
def loc? (g : SC) (x : Str) : Bool := match g.sc.names.lookup x with
  | some .local => true
  | some .cell => g.fn x
  | _ => false
def isSet : Expr → Bool
  | .Set .. => true
  | _ => false
def isSlice : Expr → Bool
  | .Slice .. => true
  | _ => false
def isStar : Expr → Bool
  | .Starred .. => true
  | _ => false
def isComp : Expr → Bool
  | .ListComp .. | .SetComp .. | .DictComp .. => true
  | _ => false
/-- its test is its value's truth -/
def plainT : Expr → Bool
  | .UnaryOp .Not _ _ | .BoolOp .. | .IfExp .. | .Compare .. => false
  | _ => true
def litOk : PV → Const → Bool
  | .non, .none => true
  | .bl b, .bool c => b == c
  | .int i, .int j => i == j
  | .str s, .str x => decide (x = mkS s) && okS s
  | _, _ => false
def tyName : Ty → Str
  | .int => "int" | .bool => "bool" | .str => "str" | .list => "list" | .tuple => "tuple"
def bmName : BM → Str
  | .append => "append" | .get2 => "get" | .pop0 => "pop" | .join => "join" | .extend => "extend" | .insert => "insert" | .index => "index" | .sindex => "index" | .popAt => "pop"
def bmAr : BM → Nat
  | .append => 1 | .get2 => 2 | .pop0 => 0 | .join => 1 | .extend => 1 | .insert => 2 | .index => 1 | .sindex => 1 | .popAt => 1
def rangeN : Str := "range"
mutual
def chkG (g : SC) : MG → Expr → Bool
  | .nm i, e => (match e with
    | .Name x _ => decide (g.N[i]? = some x) && loc? g x
    | _ => false)
  | .tp gs, e => (match e with
    | .Tuple es _ _ => !g.hot && chkGs g gs es
    | _ => false)
def chkGs (g : SC) : List MG → List Expr → Bool
  | [], es => es.isEmpty
  | x :: xs, es => (match es with
    | e :: es => chkG g x e && !isStar e && chkGs g xs es
    | [] => false)
end
mutual
def slotsG : MG → List Nat
  | .nm i => [i]
  | .tp gs => slotsGs gs
def slotsGs : List MG → List Nat
  | [] => []
  | g :: gs => slotsG g ++ slotsGs gs
end
def opD (o p : Operator) : Bool := decide (o = p)
def comps : List Comprehension → Option (Expr × Expr × List Expr)
  | [⟨t, it, is, a⟩] => if a = 0 then some (t, it, is) else none
  | _ => none
def ownOf (N : List Str) : List Nat → Option (List (Str × Nat))
  | [] => some []
  | i :: r => match N[i]? with
    | some x => (ownOf N r).map ((x, i) :: ·)
    | none => none
def SC.blk (g : SC) (scope : Scope) : SC := { g with top := false, sc := relS scope g.sc, fn := fun x => decide (scope.names.lookup x = some .cell) }
/-- what is looked at of an iterable -/
def isTupE : Expr → Bool
  | .Tuple .. => true
  | _ => false
def enumN : Str := "enumerate"
def srcOf (g : SC) (ik : IK) (t e : Expr) : Option (List Expr) := match ik with
  | .enum => match e with
    | .Call (.Name f _) [x] [] _ => if decide (f = enumN) && gl? g f && isTupE t && !isStar x then some [x] else none
    | _ => none
  | .val => if isSet e then none else some [e]
  | .range => match e with
    | .Call (.Name f _) xs [] _ => if decide (f = rangeN) && gl? g f && decide (1 ≤ xs.length) && decide (xs.length ≤ 3) then some xs else none
    | _ => none
/-- a written dict -/
def keyC : Ky → Const → Bool
  | .inl i, .int j => i == j
  | .inr s, .str x => decide (x = mkS s) && okS s
  | _, _ => false
def dselOk : List (Ky × PV) → List (Option Expr) → List Expr → Bool
  | [], ks, vs => ks.isEmpty && vs.isEmpty
  | (k, p) :: r, ks, vs => (match ks, vs with
    | some (.Constant c _ _) :: ks, .Constant d _ _ :: vs => keyC k c && litOk p d && dselOk r ks vs
    | _, _ => false)
def dictN : Str := "dict"
mutual
def chkE (g : SC) : ME → Expr → Bool
  | .var i, e => (match e with
    | .Name x _ => decide (g.N[i]? = some x) && vis? g x
    | _ => false)
  | .lit p, e => (match e with
    | .Constant c _ _ => litOk p c
    | _ => false)
  | .glb k, e => (match e with
    | .Name x _ => decide (g.T.glbs[k]? = some x) && gl? g x
    | _ => false)
  | .tup es, e => (match e with
    | .Tuple xs _ _ => chkEs g es xs
    | _ => false)
  | .lst _ es, e => (match e with
    | .List xs _ => chkEs g es xs
    | _ => false)
  | .dnew _, e => (match e with
    | .Dict [] [] _ => true
    | _ => false)
  | .bin op a b, e => (match e with
    | .BinOp x o y _ => decide (o = opB op) && chkE g a x && chkE g b y
    | _ => false)
  | .cmp op a b, e => (match e with
    | .Compare x [o] [y] _ => decide (o = opC op) && !isSet y && chkE g a x && chkE g b y
    | _ => false)
  | .boolop c es, e => (match e with
    | .BoolOp o xs _ => decide (o = if c then BoolOp.And else BoolOp.Or) && !es.isEmpty && chkEs g es xs
    | _ => false)
  | .not t, e => (match e with
    | .UnaryOp .Not x _ => chkE g t x
    | _ => false)
  | .neg a, e => (match e with
    | .UnaryOp .USub x _ => chkE g a x
    | _ => false)
  | .ite c a b, e => (match e with
    | .IfExp c' a' b' _ => chkT g c c' && chkE g a a' && chkE g b b'
    | _ => false)
  | .idx a i, e => (match e with
    | .Subscript x y _ => !isSlice y && chkE g a x && chkE g i y
    | _ => false)
  | .slc a l lo h hi, e => (match e with
    | .Subscript x (.Slice le ue none _) _ => chkE g a x && (match le with
      | some e => l && chkE g lo e
      | none => !l) && (match ue with
      | some e => h && chkE g hi e
      | none => !h)
    | _ => false)
  | .slcL a l lo h hi, e => (match e with
    | .Subscript x (.Slice le ue none _) _ => chkE g a x && (match le with
      | some e => l && chkE g lo e
      | none => !l) && (match ue with
      | some e => h && chkE g hi e
      | none => !h)
    | _ => false)
  | .tabI t i, e => (match e with
    | .Subscript (.Name x _) y _ => decide (g.T.tabs[t]? = some x) && gl? g x && !isSlice y && chkE g i y
    | _ => false)
  | .tabL t, e => (match e with
    | .Call (.Name f _) [.Name x _] [] _ => decide (f = "len") && gl? g f && decide (g.T.tabs[t]? = some x) && gl? g x
    | _ => false)
  | .tabX t es, e => (match e with
    | .Call (.Attribute (.Name x _) n apos) (y :: ys) [] cpos => decide (n = "index") && (apos.endLine == cpos.line) && decide (g.T.tabs[t]? = some x) && gl? g x && decide (es.length < 20) && chkEs g es (y :: ys)
    | _ => false)
  | .rev a, e => (match e with
    | .Subscript x (.Slice none none (some (.UnaryOp .USub (.Constant (.int 1) _ _) _)) _) _ => chkE g a x
    | _ => false)
  | .isn neg a, e => (match e with
    | .Compare x [o] [.Constant .none _ _] _ => decide (o = if neg then CmpOp.IsNot else CmpOp.Is) && chkE g a x
    | _ => false)
  | .isi t a, e => (match e with
    | .Call (.Name f _) [x, .Name ty _] [] _ => decide (f = "isinstance") && decide (ty = tyName t) && gl? g f && gl? g ty && !isStar x && chkE g a x
    | _ => false)
  | .bi b es, e => (match e with
    | .Call (.Name f _) xs [] _ => decide (f = biName b) && gl? g f && !es.isEmpty && chkEs g es xs && (!g.hot || (!needsCalm b && (!needsShow b || g.exn.isSome)))
    | _ => false)
  | .bm m r es, e => (match e with
    | .Call (.Attribute o a apos) xs [] cpos => decide (a = bmName m) && chkE g r o && decide (es.length = bmAr m) && (apos.endLine == cpos.line) && (match o with
      | .Call _ [] _ _ => false
      | _ => true) && chkEs g es xs
    | _ => false)
  | .call f es, e => (match e with
    | .Call (.Name x _) xs [] _ => decide (g.T.defs[f]? = some (some x, es.length)) && gl? g x && !es.isEmpty && chkEs g es xs && (!g.hot || g.T.hots.contains f)
    | _ => false)
  | .lc _ elt tg ik src ifs own, e => (match e with
    | .ListComp e gs scope _ => (match comps gs, ownOf g.N own with
      | some (t, it, is), some ow => (match srcOf g ik t it with
        | some xs => blkC g.N g.sc scope ow && (slotsG tg).all (own.contains ·) && chkG (g.blk scope) tg t && chkEs g src xs && chkIfs (g.blk scope) ifs is && chkE (g.blk scope) elt e && !g.hot
        | none => false)
      | _, _ => false)
    | _ => false)
  | .lcW _ elt tg src ifs own, e => (match e with
    | .ListComp e gs scope _ => (match comps gs, ownOf g.N own with
      | some (t, it, is), some ow => blkC g.N g.sc scope ow && (slotsG tg).all (own.contains ·) && chkG (g.blk scope) tg t && chkE g src it && chkIfs (g.blk scope) ifs is && chkE (g.blk scope) elt e && !isSet it && !g.hot
      | _, _ => false)
    | _ => false)
  | .frz a, e => chkE g a e
  | .fld c a f, e => (match e with
    | .Attribute x n _ => (match x with
      | .Call _ [] _ _ => false
      | _ => true) && decide (g.T.fnames[f]? = some n) && (match g.T.cls[c]? with
      | some ci => ci.fields.contains f
      | none => false) && chkE g a x
    | _ => false)
  | .mcall c f a es, e => (match e with
    | .Call (.Attribute o n apos) xs [] cpos => !g.hot && (apos.endLine == cpos.line) && plainO o && decide (es.length < 20) && (match g.T.cls[c]? with
      | some ci => ci.meths.contains (n, f, es.length + 1) && !g.T.fnames.contains n
      | none => false) && chkE g a o && chkEs g es xs
    | _ => false)
  | .new c f es, e => (match e with
    | .Call (.Name x _) xs [] _ => !g.hot && gl? g x && (match g.T.cls[c]? with
      | some ci => decide (ci.name = x) && ci.meths.contains ("__init__", f, es.length + 1)
      | none => false) && chkEs g es xs
    | _ => false)
  | .xfld i f, e => (match e with
    | .Attribute (.Name x _) n _ => decide (g.exn = some i) && decide (g.N[i]? = some x) && vis? g x && decide (g.T.fnames[f]? = some n)
    | _ => false)
  | .xisi i c, e => (match e with
    | .Call (.Name fn _) [.Name x _, .Name cn _] [] _ => decide (fn = "isinstance") && gl? g fn && decide (g.exn = some i) && decide (g.N[i]? = some x) && vis? g x && gl? g cn && decide ((g.T.errs[c]?).map (·.name) = some cn)
    | _ => false)
  | .dsel kvs i, e => (match e with
    | .Subscript (.Dict ks vs _) y _ => dselOk kvs ks vs && decide (kvs.length ≤ 15) && !kvs.isEmpty && decide ((kvs.map (·.1)).Nodup) && !isSlice y && chkE g i y
    | _ => false)
  | .tabD t i, e => (match e with
    | .Subscript (.Name x _) y _ => decide (g.T.dtabs[t]? = some x) && gl? g x && !isSlice y && chkE g i y
    | _ => false)
  | .dcopy a, e => (match e with
    | .Call (.Name f _) [x] [] _ => decide (f = dictN) && gl? g f && !isStar x && chkE g a x
    | _ => false)
  | .dpairs a, e => (match e with
    | .Call (.Name f _) [x] [] _ => decide (f = dictN) && gl? g f && !isStar x && !g.hot && chkE g a x
    | _ => false)
  | .lcopy a, e => (match e with
    | .Call (.Name f _) [x] [] _ => decide (f = biName .list) && gl? g f && !isStar x && chkE g a x
    | _ => false)
  | .cat a b, e => (match e with
    | .BinOp x o y _ => decide (o = .Add) && chkE g a x && chkE g b y
    | _ => false)
def chkEs (g : SC) : List ME → List Expr → Bool
  | [], es => es.isEmpty
  | m :: ms, es => (match es with
    | e :: es => !isStar e && chkE g m e && chkEs g ms es
    | [] => false)
def chkIfs (g : SC) : List MT → List Expr → Bool
  | [], es => es.isEmpty
  | t :: ts, es => (match ts, es with
    | [], [e] => chkT g t e
    | _, _ => false)
def chkT (g : SC) : MT → Expr → Bool
  | .val m, e => plainT e && chkE g m e
  | .cmp op a b, e => (match e with
    | .Compare x [o] [y] _ => decide (o = opC op) && !isSet y && chkE g a x && chkE g b y
    | _ => false)
  | .chain o1 o2 a b c, e => (match e with
    | .Compare x [p, q] [y, z] _ => decide (p = opC o1) && decide (q = opC o2) && !isSet y && !isSet z && chkE g a x && chkE g b y && chkE g c z
    | _ => false)
  | .isn neg a, e => (match e with
    | .Compare x [o] [.Constant .none _ _] _ => decide (o = if neg then CmpOp.IsNot else CmpOp.Is) && chkE g a x
    | _ => false)
  | .boolop c ts, e => (match e with
    | .BoolOp o xs _ => decide (o = if c then BoolOp.And else BoolOp.Or) && !ts.isEmpty && chkTs g ts xs
    | _ => false)
  | .not t, e => (match e with
    | .UnaryOp .Not x _ => chkT g t x
    | _ => false)
def chkTs (g : SC) : List MT → List Expr → Bool
  | [], es => es.isEmpty
  | t :: ts, es => (match es with
    | e :: es => chkT g t e && chkTs g ts es
    | [] => false)
end
end Z
end

section
/-! ZV: an error with fields is asked for its class; errors with an own __init__ are made. -/
namespace Z
open PySem PySem.Spec PySem.Calls PyProof.Rows PySem.W L2
section
variable {prog : Program} {w : World} {A : Around} {E : Value → Shared → Prop} {s : Shared} {K : Frag} {x D : Addr} {ox : Obj} {od : Option Obj}
theorem cls_data (T : ExcC K D) : findObj K D od "__class__" = some (.bind (.builtin "getset_descriptor.__get__") (.builtin "object.__class__")) := by
  obtain ⟨cd, hcd, _⟩ := any_some T.hd
  unfold findObj
  rw [hcd, Option.bind_some, T.ha, Option.bind_some]
  simp [T.hn, T.ht]
theorem asked_class (T : ExcC K D) {Q : Option Value → Shared → Prop} (X : K.In s.heap) (J : InstAt s.heap x ox D od) (fin : Q (some (.ref D)) { s with toks := s.toks + 1 }) : wpAny (model prog w) A (getAttr? (.ref x) "__class__") Q E s := by
  obtain ⟨hh, gg, dr, tk, ost⟩ := s
  have t0 := J.type (M := model prog w)
  have t1 := looks_findIn (M := model prog w) X T.hg
  have t2 := looks_findIn (M := model prog w) X T.hk
  have t3 := looks_find (M := model prog w) X J (cls_data (od := od) T)
  have base : Looks (model prog w) hh (isInstance (.ref x) (.type "BaseException")) true := t0.andThen (looks_subIn X T.hs)
  have n0 : (Value.builtin "BaseException.__getattribute__" == Value.builtin "object.__getattribute__") = false := by decide +kernel
  have n1 : (onTheHeap (Value.ref D) && Value.builtin "BaseException.__getattribute__" == Value.builtin "object.__getattribute__") = false := by rw [n0]; rfl
  have n2 : (false && onTheHeap (Value.builtin "BaseException.__getattribute__")) = false := rfl
  unfold getAttr? getAttrBy? getAttrBy
  refine wpAny_bind (wpAny_mkText ?_)
  refine wpAny_bind (wpAny_attempt (wpAny_holding ?_))
  refine wpAny_bind (t0.at (wpAny_bind (t1.at ?_)))
  show wpAny _ _ (if (onTheHeap (Value.ref D) && Value.builtin "BaseException.__getattribute__" == Value.builtin "object.__getattribute__") = true then _ else _) _ _ _
  rw [n1]
  rw [if_neg Bool.false_ne_true]
  unfold getAttrByItsOwn hookBefore
  refine wpAny_bind ?_
  rw [if_pos (show onTheHeap (Value.ref D) = true from rfl)]
  refine t2.at (wpAny_bind (wpAny_attempt (wpAny_holding ?_)))
  unfold callGetattribute
  rw [n2]
  rw [if_neg Bool.false_ne_true]
  unfold boundAndCalled
  rw [PySem.F.excAttr_ValueError.ga.bind (.ref x)]
  refine wpAny_bind (wpAny_pure ?_)
  show wpAny _ _ (call (.builtin "BaseException.__getattribute__") [.ref x, .str "__class__" tk]) _ _ _
  refine wpAny_call (codeAny_call_builtin PySem.F.excAttr_ValueError.ga.plain PySem.F.entry_bexc_ga ?_)
  refine @check_slot (model prog w) _ _ ⟨hh, gg, dr, tk + 1, ost⟩ "BaseException.__getattribute__" "BaseException" "__getattribute__" (.ref x) [.str "__class__" tk] [] _ (by decide +kernel) (by decide +kernel) base (PySem.F.args_bexc_ga (.ref x) (.str "__class__" tk)) ?_
  unfold Builtin.«object.__getattribute__»
  refine wpAny_bind (wpAny_of_eq (a := ((Value.ref x : Value), [Value.str "__class__" tk])) (by first | rfl | (simp only [slotArgs]; rfl)) ?_)
  refine wpAny_bind (wpAny_pure ?_)
  refine wpAny_bind (t0.at (wpAny_bind (t3.at ?_)))
  show wpAny _ _ (holding [Value.builtin "object.__class__"] (call (.builtin "getset_descriptor.__get__") [.builtin "object.__class__", .ref x, .ref D]) >>= ret) _ _ _
  refine wpAny_bind (wpAny_holding (wpAny_call (class_get (s := ⟨hh, gg, dr, tk + 1, ost⟩) (ox := ox) (od := od) X J T.hm ?_)))
  refine wpAny_pure ?_
  show wpAny _ _ (handedOut (.ref D)) _ _ _
  rw [handedOut_of (v := .ref D) rfl]
  first
    | exact wpAny_pure (wpAny_pure fin)
    | exact wpAny_pure fin
    | exact wpAny_pure (wpAny_bind (wpAny_pure (wpAny_pure fin)))
theorem kitx_err (T : ExcC K D) : KitX K (.ref x) (.ref D) (fun h => InstAt h x ox D od) where
  ty := fun _ _ _ J => J.type
  it := fun _ _ X _ => by
    obtain ⟨cd, hcd, _⟩ := any_some T.hd
    unfold clsIn at hcd
    split at hcd
    · rename_i c1 d1 cd1 sl1 hob
      intro A1 Q1 E1 s1 kp q
      unfold isType loadHead
      exact wpAny_bind (wpAny_loadPart (kp _ _ (X _ _ hob)) (wpAny_pure q))
    · cases hcd
  ne := fun h tp dd its n sl X htp => by
    obtain ⟨cd, hcd, _⟩ := any_some T.hd
    refine Bool.eq_false_iff.mpr fun q => ?_
    obtain rfl : D = tp := Value.ref.inj (beq_iff_eq.mp q)
    unfold clsIn at hcd
    split at hcd
    · rename_i c1 d1 cd1 sl1 hob
      have z := (X _ _ hob).symm.trans htp
      cases z
    · cases hcd
  ca := fun X J q => asked_class T X J q
end
/-- isinstance(e, c), e the error that the suite holds, with fields or without -/
def rIsX (K : Frag) (D a : Addr) (d : Option Addr) : List V → Hp → VK → Prop := fun xs H Q => ∃ (c : V) (cv : Value) (b : Bool), xs = [.ref a, c] ∧ (∀ u, RelV c u → u = cv) ∧ (d = none ∨ ∃ dd fs, d = some dd ∧ H dd = some (.xd fs)) ∧ kitOne K (.ref D) cv = some b ∧ Q (.bl b) H
theorem call_isX {X : Cx} {a D : Addr} {oe : Obj} {d : Option Addr} {pn : List (Addr × Obj)} (T : ExcC X.K D) (hz : Zc (.ref D) d oe) (hf : ∃ vs, oe.data = .fields vs) : CallR (X.suite a ((a, oe) :: pn)) (.builtin "isinstance") (rIsX X.K D a d) := by
  intro pins s σ H xs us Q I r h
  obtain ⟨c, cv, b, rfl, hcv, hd, e, q⟩ := h
  cases r with
  | cons rx rr =>
    cases rr with
    | cons rt rr =>
      cases rr
      cases rx
      have ec := hcv _ rt
      subst ec
      obtain ⟨hget, _⟩ := I.pin (a, oe) (List.mem_append.mpr (.inl List.mem_cons_self))
      obtain ⟨vs, hv⟩ := hf
      have J : ∃ od, InstAt s.heap a oe D od := by
        rcases hd with hd | ⟨dd, fs, hd, hx⟩
        · refine ⟨none, hget, hz.1, by unfold notCls; rw [hv] <;> rfl, ?_⟩
          rw [hz.2, hd]; trivial
        · obtain ⟨mA, hns, hr⟩ := (show ObjOk X.prog X.w H s.heap dd (.xd fs) from I.hok dd _ hx)
          obtain ⟨od, es, ep, ho, _⟩ := hns
          refine ⟨some od, hget, hz.1, by unfold notCls; rw [hv] <;> rfl, ?_⟩
          rw [hz.2, hd]; exact ho
      obtain ⟨od, J⟩ := J
      exact kia_one (kitx_err T) I.kIn J e (fun z => nomatch z) fun tk => ⟨.bl b, H, I.kept (t' := tk) fun _ _ z => z, rfl, q⟩
end Z
end

section
/-! ZW: errors whose __init__ keeps its parameters in fields: made, raised. -/
namespace Z
open PySem PySem.Spec PyProof.Rows L2
section
variable {X : Cx} {e : Expr} {es : List Expr} {ta : TA} {p pos : Pos}
/-- C(e, ..) behind raise -/
theorem pmkX {CX : CXT} {x : Str} {C fI : Addr} {k : Nat} {fd : FuncData} {ps : List Str} {sp : Sp} (T : OexC X.K C) (iC : PySem.W.findIn X.K (.ref C) "__init__" = some (some (.ref fI))) (tI : PySem.W.typeIn X.K (.ref fI) = some (.type "function"))
    (FI : FnOk X.prog X.w X.K X.mg X.base CX k fI fd ps sp) (room : Room (k + 1) X.A) (bd : Binds X.K fd ps []) (ps0 : Passes CX X (fun _ _ _ => False)) (hg : Gl X x) (hm : X.mg x = some (.ref C)) (ha : PA X (e :: es) ta)
    (hdb : (x == ("__debug__" : Str)) = false) (st : starEach (e :: es) X.env = (false, eval e X.env) :: starEach es X.env) (pl : (backTo pos (starEach es X.env)).any (·.1) = false) :
    L2N.PMk X (.Call (.Name x p) (e :: es) [] pos) (tMkO C sp [] ta) := by
  intro pins s σ H Q I h
  obtain ⟨nm, q, N, bs, bm, sn, sub, ab, col, dd, k0, k1, k2, k3, k5, hC, hbm⟩ := T.cls
  refine wpAny_Call_Name_kw (ld_glob I hg hm ?_ hdb)
  refine PySem.W.callWith_K (h₀ := X.base) I.ok.mod.kin T.kC (thn (ha.run pos pins s σ H _ I h) fun us s1 hs1 => ?_) st pl
  obtain ⟨vs, H1, J, rv, hlen, hall⟩ := hs1
  refine ⟨J.kIn, ?_⟩
  show wpAny _ _ (call (.ref C) us) _ _ _
  obtain ⟨h0, gs, drn, tks, ost⟩ := s1
  have up1 : h0.objs.size ≤ h0.objs.size + 1 := Nat.le_succ _
  have keep : ∀ b o, h0.get? b = some o → ((h0.push (PySem.W.kdv_tup us)).push (PySem.HandSPX.excO C h0.objs.size)).get? b = some o := fun b o z => Heap.get?_push_of_some _ (Heap.get?_push_of_some _ z)
  have there : ((h0.push (PySem.W.kdv_tup us)).push (PySem.HandSPX.excO C h0.objs.size)).get? (h0.objs.size + 1) = some (PySem.HandSPX.excO C h0.objs.size) := by heap_get
  have J2 := J.laid (t' := tks) (a := h0.objs.size + 1) (o := exo (h0.objs.size + 1) C none) keep up1 (exo_ok there)
  have hcall := hall (h0.objs.size + 1) (J.hok.fresh up1)
  have rv2 : Vals (V.ref (h0.objs.size + 1) :: (vs ++ [])) (Value.ref (h0.objs.size + 1) :: (us ++ [])) := .cons rfl (rv.append .nil)
  have len : (Value.ref (h0.objs.size + 1) :: us ++ []).length = ps.length := by
    have z := rv2.length
    rw [FI.len _ _ _ _ hcall] at z
    exact z.symm
  have few : us.length ≤ sizeLine := by
    rw [← Paired.length rv, sizeLine_eq]
    omega
  have bz := bd _ (Value.ref (h0.objs.size + 1) :: us) J2.kIn len
  rw [List.cons_append] at bz
  have hrun := FI.run _ X.stack _ _ ⟨Value.ref (h0.objs.size + 1) :: us, []⟩ (Value.ref (h0.objs.size + 1) :: (us ++ [])) _ _ (fun _ _ _ => False) (room.make C us []) (J2.env0.make C us []) bz rv2 hcall
  refine wpAny_call (PySem.HandSPX.call_own F.excBase_ValueError (fun Y => PySem.HandSPX.refsVE_contains Y bm hbm) (J.kIn _ _ hC) (PySem.W.looks_findIn J.kIn iC) (fun self => PySem.W.bind_fn J.kIn self tI) few (codeAny_mono hrun fun r s' back => ?_))
  cases r with
  | error er => exact ps0 pins σ _ _ er s' J2 back
  | ok fl =>
    cases fl with
    | next => exact False.elim back
    | brk => exact False.elim back
    | cont => exact False.elim back
    | ret u =>
      obtain ⟨v, H2, os2, bare2, un2, hok2, rvv, ev, d, fs, ea, ed, nd, fin⟩ := back
      subst ev
      obtain ⟨h2, g2, d2, t2, o2⟩ := s'
      obtain ⟨t0, G0, J3, kG, ge, hoe, na⟩ := mk_end0 (d2 := d2) (t2 := t2) J up1 keep un2 hok2 os2 bare2 ea ed nd
      exact ⟨rvv, h0.objs.size + 1, _, _, ⟨G0, g2, d2, t2, o2⟩, _, .ref C, some d, rfl, J3, kG, ge, hoe, ⟨rfl, rfl, fun vs z => by cases z; rfl⟩, rfl, rfl, na, rfl, bare2, raises_own T.exC T.tyC, fin⟩
end
/-! ### the body of such an __init__ -/
/-- the fields that the stores leave, the last one ahead -/
def extF (ys : List V) : List (Str × V) → List (Str × Nat) → Option (List (Str × V))
  | acc, [] => some acc
  | acc, (f, i) :: r => match ys[i]? with
    | some y => extF ys ((f, y) :: acc) r
    | none => none
def tInit (K : PySem.W.Frag) : List (Str × Nat) → TS
  | [] => tNext
  | (f, i) :: r => tSeq (tOst K f (tVar 0) (tVar (i + 1))) (tInit K r)
def chkInit (N : List Str) (sc : Scope) : List (Str × Nat) → List Stmt → Bool
  | [], ss => ss.isEmpty
  | (f, i) :: r, ss => (match ss with
    | .Assign [.Attribute (.Name a _) g _] (.Name x _) _ :: ss => decide (g = f) && decide (N[0]? = some a) && decide (N[i + 1]? = some x) && vis? { N := N, sc := sc, fn := fun _ => true, T := { defs := [], glbs := [] } } a && vis? { N := N, sc := sc, fn := fun _ => true, T := { defs := [], glbs := [] } } x && chkInit N sc r ss
    | _ => false)
theorem vis_of {X : Cx} {N : List Str} {sc : Scope} {T : Tab} (hs : X.env.scope = sc) {x : Str} (h : vis? { N := N, sc := sc, fn := fun _ => true, T := T } x = true) : Vis X.env.scope x ∧ (x == ("__debug__" : Str)) = false ∧ (x == ("__classdict__" : Str)) = false := by
  simp only [vis?, Bool.and_eq_true, Bool.not_eq_true'] at h
  refine ⟨?_, h.1.2, h.2⟩
  have h1 := h.1.1
  unfold Vis
  rw [hs]
  split at h1
  · exact .inl (by assumption)
  · exact .inr (.inl (by assumption))
  · exact .inr (.inr (by assumption))
  · cases h1
theorem pss_init {X : Cx} {N : List Str} {sc : Scope} (hN : X.N = N) (hs : X.env.scope = sc) : ∀ {r : List (Str × Nat)} {ss : List Stmt}, chkInit N sc r ss = true → PSs X ss (tInit X.K r)
  | [], ss, h => by
    simp only [chkInit, List.isEmpty_iff] at h
    subst h
    exact pss_nil
  | (f, i) :: r, ss, h => by
    unfold chkInit at h
    split at h
    · simp only [Bool.and_eq_true, decide_eq_true_eq] at h
      obtain ⟨⟨⟨⟨⟨h1, h2⟩, h3⟩, h4⟩, h5⟩, h6⟩ := h
      subst h1
      obtain ⟨v1, v2, v3⟩ := vis_of hs h4
      obtain ⟨w1, w2, w3⟩ := vis_of hs h5
      exact pss_cons (ps_ost (pe_var (by rw [hN]; exact h2) v1 v2 v3) (pe_var (by rw [hN]; exact h3) w1 w2 w3)) (pss_init hN hs h6)
    · cases h
section
variable {K : PySem.W.Frag} {C a : Addr} {ys : List V}
theorem init_old (T : OexC K C) : ∀ {r : List (Str × Nat)} {acc fs : List (Str × V)} {D : Ends} {σ : L2.St} {H : Hp} {d : Addr}, (∀ q ∈ r, PySem.W.findIn K (.ref C) q.1 = some none) → H a = some (exo a C (some d)) → H d = some (exd d acc) → d ≠ a → acc.length + r.length ≤ 900 →
    σ[0]? = some (some (.ref a)) → (∀ i y, ys[i]? = some y → σ[i + 1]? = some (some y)) → extF ys acc r = some fs → (∀ H', H' a = some (exo a C (some d)) → H' d = some (exd d fs) → (∀ b, b ≠ d → H' b = H b) → D.nx σ H') → tInit K r D σ H
  | [], acc, fs, D, σ, H, d, hno, ea, ed, ne, hl, s0, sy, ex, q => by
    simp only [extF, Option.some.injEq] at ex
    subst ex
    exact q H ea ed fun _ _ => rfl
  | (f, i) :: r, acc, fs, D, σ, H, d, hno, ea, ed, ne, hl, s0, sy, ex, q => by
    unfold extF at ex
    split at ex
    · rename_i y hy
      refine ⟨y, sy i y hy, _, s0, a, C, rfl, T, hno _ List.mem_cons_self, .inr ⟨d, acc, ea, ed, by simp only [List.length_cons] at hl; omega, ?_⟩⟩
      refine init_old T (d := d) (fun z hz => hno z (List.mem_cons_of_mem _ hz)) (by rw [upd_ne (Ne.symm ne)]; exact ea) upd_same ne (by simp only [List.length_cons] at hl ⊢; omega) s0 sy ex fun H' e1 e2 e3 => ?_
      exact q H' e1 e2 fun b hb => by rw [e3 b hb, upd_ne hb]
    · cases ex
theorem init_new (T : OexC K C) {f : Str} {i : Nat} {r : List (Str × Nat)} {fs : List (Str × V)} {D : Ends} {σ : L2.St} {H : Hp} (hno : ∀ q ∈ (f, i) :: r, PySem.W.findIn K (.ref C) q.1 = some none) (ea : H a = some (exo a C none)) (hl : r.length ≤ 800)
    (s0 : σ[0]? = some (some (.ref a))) (sy : ∀ i y, ys[i]? = some y → σ[i + 1]? = some (some y)) (ex : extF ys [] ((f, i) :: r) = some fs)
    (q : ∀ d H', H d = none → d ≠ a → H' a = some (exo a C (some d)) → H' d = some (exd d fs) → (∀ b, b ≠ d → b ≠ a → H' b = H b) → D.nx σ H') : tInit K ((f, i) :: r) D σ H := by
  unfold extF at ex
  split at ex
  · rename_i y hy
    refine ⟨y, sy i y hy, _, s0, a, C, rfl, T, hno _ List.mem_cons_self, .inl ⟨ea, fun d nd ne => ?_⟩⟩
    refine init_old T (d := d) (fun z hz => hno z (List.mem_cons_of_mem _ hz)) upd_same (by rw [upd_ne ne]; exact upd_same) ne (by simp only [List.length_cons, List.length_nil]; omega) s0 sy ex fun H' e1 e2 e3 => ?_
    refine q d H' nd ne e1 e2 fun b hb hb2 => ?_
    rw [e3 b hb, upd_ne hb2, upd_ne hb]
  · cases ex
end
/-- its promise -/
def spI (C : Addr) (fl : List (Str × Nat)) (np : Nat) : Sp := fun vs H Q _ => ∃ a ys fs, vs = .ref a :: ys ∧ ys.length = np ∧ H a = some (exo a C none) ∧ extF ys [] fl = some fs ∧
  ∀ d H', H d = none → d ≠ a → H' a = some (exo a C (some d)) → H' d = some (exd d fs) → (∀ b, b ≠ d → b ≠ a → H' b = H b) → Q .non H'
theorem init_ok {P : Program} {w : World} {K : PySem.W.Frag} {mg : Str → Option Value} {base : Heap} {CX : CXT} {x qual : Str} {params : Arguments} {body : List Stmt} {scope : Scope} {f C : Addr} {fd : FuncData} {N ps : List Str} {k : Nat} {fl : List (Str × Nat)} {np : Nat}
    (F : FunD K x qual params body scope [] [] f fd) (S : FnScope N ps scope) (T : OexC K C) (hn : ps.length = np + 1) (hne : fl ≠ []) (hl : fl.length ≤ 800) (hno : ∀ q ∈ fl, PySem.W.findIn K (.ref C) q.1 = some none) (hc : chkInit N scope fl body = true) :
    FnOk P w K mg base CX (k + 1) f fd ps (spI C fl np) := by
  refine F.ok S (fun vs H Q E h => ?_) fun cdv A outer s H vs Q E hr h => ?_
  · obtain ⟨a, ys, fs, e1, e2, _⟩ := h
    rw [e1, List.length_cons, e2, hn]
  · refine ⟨_, pss_init rfl rfl hc, ?_⟩
    obtain ⟨a, ys, fs, e1, e2, ea, ex, q⟩ := h
    subst e1
    match fl, hne, hl, hno, ex, hc with
    | (g, i) :: r, _, hl, hno, ex, hc =>
      refine init_new (ys := ys) T hno ea (by simp only [List.length_cons] at hl; omega) rfl (fun i y hy => ?_) ex q
      unfold L2.start
      have hi : i < ys.length := (List.getElem?_eq_some_iff.mp hy).1
      rw [List.getElem?_append_left (by simp; omega)]
      simp [hy]
end Z
end

section
/-! ZJc: defs where nothing is being shown (no guard on the stack); methods, makers of such. -/
namespace Z
open PySem PySem.Spec PyProof.Rows L2
structure FnG (P : Program) (w : World) (K : PySem.W.Frag) (mg : Str → Option Value) (base : Heap) (CX : CXT) (k : Nat) (f : Addr) (fd : FuncData) (ps : List Str) (sp : Sp) : Prop where
  len : ∀ vs H Q E, sp vs H Q E → vs.length = ps.length
  run : ∀ (A : Around) (outer : List Env) (s : Shared) (H : Hp) (args : Args) (us : List Value) (vs : List V) (Q : VK) (E : XK), Room k A → A.guards = some [] → Env0 P w K mg base A outer s H → BindsTo s fd args (ps.zip us) → Vals vs us → sp vs H Q E →
    codeAny (model P w) A (.call (.ref f) args) (L2.CR CX outer P w H s Q E) s
theorem FnG.mono {P : Program} {w : World} {K : PySem.W.Frag} {mg : Str → Option Value} {base : Heap} {CX : CXT} {j k : Nat} {f : Addr} {fd : FuncData} {ps : List Str} {sp : Sp} (F : FnG P w K mg base CX j f fd ps sp) (h : j ≤ k) :
    FnG P w K mg base CX k f fd ps sp := ⟨F.len, fun A outer s H args us vs Q E hr => F.run A outer s H args us vs Q E (hr.mono h)⟩
theorem guards_deeper {A : Around} {env : Env} : (A.deeper env).guards = A.guards := by
  first | rfl | simp [Around.deeper]
theorem guards_make {A : Around} {C : Addr} {us : List Value} {kw : List (Str × Value)} : (A.under (.builtin "type.__call__" ⟨.ref C :: us, kw⟩)).guards = A.guards := by
  first | rfl | simp [Around.under, Code.guards, Code.isGuard, guardIds, pushGuards]
section
variable {P : Program} {w : World} {K : PySem.W.Frag} {mg : Str → Option Value} {base : Heap} {x qual : Str} {params : Arguments} {body : List Stmt} {scope : Scope} {dvs : List V} {kws : List (Str × V)} {f : Addr} {fd : FuncData}
theorem fund_okG {CX : CXT} {N ps : List Str} {k : Nat} {sp : Sp} (F : FunD K x qual params body scope dvs kws f fd) (S : FnScope N ps scope) (len : ∀ vs H Q E, sp vs H Q E → vs.length = ps.length)
    (hbody : ∀ (cdv : Value) (A : Around) (outer : List Env) (s : Shared) (H : Hp) (vs : List V) (Q : VK) (E : XK), Room k (A.deeper (envOfC qual scope s.heap.objs.size f cdv)) → A.guards = some [] → sp vs H Q E →
      ∃ t, PSs (cxOf CX P w K mg base N qual scope f cdv A outer s H E) body t ∧ t { nx := fun _ H' => Q .non H', rt := Q } (start N vs) H) : FnG P w K mg base CX (k + 1) f fd ps sp := by
  obtain ⟨oc, od, dV, kV, doc, pm, an, cdv, ct, osl, rfl, lk, hcd, _, _⟩ := F.ex
  refine ⟨len, fun A outer s H args us vs Q E hr hgd e0 hb r hsp => ?_⟩
  have hl := len _ _ _ _ hsp
  have KX : K.In s.heap := e0.mod.kin.keeps fun b o e => (e0.bs b o e).1
  have lim : s.heap.NoLimit := e0.mod.nolimit.keeps fun b o e => (e0.bs b o e).1
  have hkind : ∀ y ∈ ps.zip us, scope.names.lookup y.1 = some .local ∨ (scope.names.lookup y.1 = some .cell ∧ ((cellsFrom (s.heap.objs.size + 1) scope.names []).lookup y.1).isSome = true) := fun ⟨n, v⟩ hy => by
    rcases S.par n (List.of_mem_zip hy).1 with q | q
    · exact .inl q
    · exact .inr ⟨q, PySem.W.cellsFrom_some _ _ _ (.inl q)⟩
  refine codeAny_call_function hr.depth (KX _ _ lk) rfl S.co S.gen rfl (PySem.W.codeRec_of KX hcd) (hb _ _ _ _ ?_)
  refine wpAny_newFunctionEnv_cells S.kind hkind fun env he s1 x => ?_
  subst he
  refine ⟨lim.keeps x.toInCall.keep, codeAny_func ?_⟩
  obtain ⟨t, ht, hq⟩ := hbody cdv A outer s H vs Q E (hr.deeper _) hgd hsp
  have I : Inv (cxOf CX P w K mg base N qual scope f cdv A outer s H E) [] (start N vs) H s1 := inv_start S hr.hd e0 hl r x
  refine wpAny_mono (ht.run [] s1 (start N vs) H _ I hq) (fun fl s' hs => ?_) fun e s' hs => hs
  have fin : ∀ {σ' : L2.St} {H' : Hp} {v : V} {u : Value}, Inv (cxOf CX P w K mg base N qual scope f cdv A outer s H E) [] σ' H' s' → RelV v u → Q v H' → CE outer P w H s Q u s' :=
    fun {σ' H' v u} J rv q => ⟨v, H', J.os, J.bare, J.base, J.hok, rv, q⟩
  cases fl with
  | ret u =>
    obtain ⟨v, σ', H', J, rv, q⟩ := hs
    exact fin J rv q
  | next =>
    obtain ⟨σ', H', J, q⟩ := hs
    exact fin (v := V.non) (u := Value.none) J rfl q
  | brk =>
    obtain ⟨_, _, _, q⟩ := hs
    exact False.elim q
  | cont =>
    obtain ⟨_, _, _, q⟩ := hs
    exact False.elim q
/-- the same within an except suite -/
theorem fund_okH {CX : CXT} {N ps : List Str} {k : Nat} {sp : Sp} (F : FunD K x qual params body scope dvs kws f fd) (S : FnScope N ps scope) (len : ∀ vs H Q E, sp vs H Q E → vs.length = ps.length)
    (hbody : ∀ (cdv : Value) (A : Around) (outer : List Env) (s : Shared) (H : Hp) (vs : List V) (Q : VK) (E : XK) (p : Addr × Obj), L2H.Hot1 A p → L2H.RoomH k (A.deeper (envOfC qual scope s.heap.objs.size f cdv)) → sp vs H Q E →
      ∃ t, PSs (L2H.cxH CX P w K mg base N qual scope f cdv A outer s H E p) body t ∧ t { nx := fun _ H' => Q .non H', rt := Q } (start N vs) H) : L2H.FnH P w K mg base CX (k + 1) f fd ps sp := by
  obtain ⟨oc, od, dV, kV, doc, pm, an, cdv, ct, osl, rfl, lk, hcd, _, _⟩ := F.ex
  exact L2H.fn_ofH lk hcd S len fun A outer s H vs Q E p hot hr hsp => hbody cdv A outer s H vs Q E p hot hr hsp
end
section
variable {X : Cx} {CX : CXT} {k : Nat} {f C : Addr} {fd : FuncData} {ps : List Str} {sp : Sp} {E : L2.St → XK} {x m : Str} {p pos apos : Pos} {o : Expr} {es : List Expr} {t : TA} {ta : TE}
theorem run_fnG {pins : List (Addr × Obj)} {σ : L2.St} {H : Hp} {s : Shared} {Q : VK} {us : List Value} {vs : List V} (F : FnG X.prog X.w X.K X.mg X.base CX k f fd ps sp) (hr : Room k X.A) (hgd : X.A.guards = some []) (hb : Binds X.K fd ps []) (hx : PassesAt CX X σ (E σ))
    (I : Inv X pins σ H s) (r : Vals vs us) (h : sp vs H Q (E σ)) : wpAny (model X.prog X.w) X.A (call (.ref f) us) (EP X pins σ Q) X.xe s := by
  have hl : us.length = ps.length := by rw [← r.length]; exact F.len _ _ _ _ h
  have b := hb s us I.kIn (by rw [List.append_nil]; exact hl)
  rw [List.append_nil] at b
  refine wpAny_call (codeAny_mono (F.run X.A X.stack s H ⟨us, []⟩ us vs Q (E σ) hr hgd I.env0 b r h) fun r s' hq => ?_)
  cases r with
  | error e => exact hx pins H s e s' I hq
  | ok fl =>
    cases fl with
    | ret u => exact I.after hq
    | next => exact False.elim hq
    | brk => exact False.elim hq
    | cont => exact False.elim hq
def tCallG (sp : Sp) (E : L2.St → XK) (t : TA) : TE := fun σ H Q => t σ H fun vs H1 => sp vs H1 Q (E σ)
theorem pe_callG {e : Expr} (F : FnG X.prog X.w X.K X.mg X.base CX k f fd ps sp) (hr : Room k X.A) (hgd : X.A.guards = some []) (hg : Gl X x) (hm : X.mg x = some (.ref f)) (hk : PySem.W.keepIn X.K (.ref f) = true) (hb : Binds X.K fd ps []) (hx : ∀ σ, PassesAt CX X σ (E σ))
    (ha : PA X (e :: es) t) (hdb : (x == ("__debug__" : Str)) = false) (he : starEach (e :: es) X.env = (false, eval e X.env) :: starEach es X.env) (hpl : (backTo pos (starEach es X.env)).any (·.1) = false) :
    PE X (.Call (.Name x p) (e :: es) [] pos) (tCallG sp E t) := by
  refine ⟨fun pins s σ H Q I h => ?_⟩
  refine wpAny_Call_Name_kw (ld_glob I hg hm ?_ hdb)
  refine PySem.W.callWith_K (h₀ := X.base) I.ok.mod.kin hk (thn (ha.run pos pins s σ H _ I h) fun us s1 ⟨vs, H1, I1, r, q⟩ => ⟨I1.kIn, ?_⟩) he hpl
  exact run_fnG F hr hgd hb (hx σ) I1 r q
theorem pe_callG0 (F : FnG X.prog X.w X.K X.mg X.base CX k f fd ps sp) (hr : Room k X.A) (hgd : X.A.guards = some []) (hg : Gl X x) (hm : X.mg x = some (.ref f)) (hk : PySem.W.keepIn X.K (.ref f) = true) (hb : Binds X.K fd ps []) (hx : ∀ σ, PassesAt CX X σ (E σ))
    (hdb : (x == ("__debug__" : Str)) = false) : PE X (.Call (.Name x p) [] [] pos) (tCallG sp E tNil) := by
  refine ⟨fun pins s σ H Q I h => ?_⟩
  refine wpAny_Call_Name_kw (ld_glob I hg hm ?_ hdb)
  exact PySem.W.callWith_K0 I.kIn hk (run_fnG (us := []) F hr hgd hb (hx σ) I .nil h)
/-! ### methods -/
theorem mtree {xs : List Expr} {cpos : Pos} {env : Env} (hb : attributeBase o m env (eval o env) = eval o env) (hfew : ((backTo cpos (starEach xs env)).all (fun x => !x.1) && (backToKw cpos (keywordEach [] env)).all (fun x => x.1.isSome)
      && decide (xs.length + ([] : List Keyword).length + (if ([] : List Keyword).isEmpty then 0 else 1) < 30)) = true) (hline : (apos.endLine == cpos.line) = true) :
    eval (.Call (.Attribute o m apos) xs [] cpos) env = (do
      let ov ← eval o env
      standAt apos.atName
      let (f, first) ← holding [ov] (getMethod ov m (do return (← importBound o env).getD true))
      callWith cpos f first (backTo cpos (starEach xs env)) (backToKw cpos (keywordEach [] env))) := by
  rw [arm_eval_Call, hb]
  have hform : methodCallForm (xs.length + ([] : List Keyword).length) (backTo cpos (starEach xs env)) (backToKw cpos (keywordEach [] env)) = true := hfew
  have hpos : methodCallPos true o env apos cpos = pure cpos := by unfold methodCallPos; simp [hline]
  unfold methodCall
  rw [hform, hpos]
  simp only [calleeOf, if_true, pure_bind]
def tMethG (C : Addr) (m : Str) (sp : Sp) (E : L2.St → XK) (ta : TE) (t : TA) : TE := fun σ H Q => ta σ H fun x H1 => ∃ a dx fs, x = .ref a ∧ H1 a = some (.ins C dx fs) ∧ fs.lookup m = none ∧ t σ H1 fun vs H2 => sp (x :: vs) H2 Q (E σ)
theorem pe_methG {e : Expr} (he : PE X o ta) (c : Cls X.K C) (hm : Meth X.K C m f) (F : FnG X.prog X.w X.K X.mg X.base CX k f fd ps sp) (hr : Room k X.A) (hgd : X.A.guards = some []) (hb : Binds X.K fd ps []) (hx : ∀ σ, PassesAt CX X σ (E σ)) (ha : PA X (e :: es) t)
    (hst : starEach (e :: es) X.env = (false, eval e X.env) :: starEach es X.env) (hpl : (backTo pos (starEach es X.env)).any (·.1) = false)
    (ht : eval (.Call (.Attribute o m apos) (e :: es) [] pos) X.env = (do
      let ov ← eval o X.env
      standAt apos.atName
      let (f, first) ← holding [ov] (getMethod ov m (do return (← importBound o X.env).getD true))
      callWith pos f first (backTo pos (starEach (e :: es) X.env)) (backToKw pos (keywordEach [] X.env)))) :
    PE X (.Call (.Attribute o m apos) (e :: es) [] pos) (tMethG C m sp E ta t) := by
  refine ⟨fun pins s σ H Q I h => ?_⟩
  refine PySem.W.methodCall_KW (thn (he.run pins s σ H _ I h) fun u s1 ⟨x, H1, I1, rx, a, dx, fs, ex, ea, l, q⟩ => ?_) ht
  subst ex
  obtain rfl : u = Value.ref a := rx
  refine getmeth_ok I1 ea c hm l ?_
  refine PySem.W.callWith_K (first := [.ref a]) (h₀ := X.base) I.ok.mod.kin hm.kp (thn (ha.run pos pins s1 σ H1 _ I1 q) fun us s2 ⟨vs, H2, I2, r, q2⟩ => ⟨I2.kIn, ?_⟩) hst hpl
  exact run_fnG (us := .ref a :: us) (vs := .ref a :: vs) F hr hgd hb (hx σ) I2 (.cons rfl r) q2
theorem pe_methG0 (he : PE X o ta) (c : Cls X.K C) (hm : Meth X.K C m f) (F : FnG X.prog X.w X.K X.mg X.base CX k f fd ps sp) (hr : Room k X.A) (hgd : X.A.guards = some []) (hb : Binds X.K fd ps []) (hx : ∀ σ, PassesAt CX X σ (E σ))
    (ht : eval (.Call (.Attribute o m apos) [] [] pos) X.env = (do
      let ov ← eval o X.env
      standAt apos.atName
      let (f, first) ← holding [ov] (getMethod ov m (do return (← importBound o X.env).getD true))
      callWith pos f first (backTo pos (starEach [] X.env)) (backToKw pos (keywordEach [] X.env)))) :
    PE X (.Call (.Attribute o m apos) [] [] pos) (tMethG C m sp E ta tNil) := by
  refine ⟨fun pins s σ H Q I h => ?_⟩
  refine PySem.W.methodCall_KW (thn (he.run pins s σ H _ I h) fun u s1 ⟨x, H1, I1, rx, a, dx, fs, ex, ea, l, q⟩ => ?_) ht
  subst ex
  obtain rfl : u = Value.ref a := rx
  refine getmeth_ok I1 ea c hm l ?_
  exact PySem.W.callWith_K0 (first := [.ref a]) I1.kIn hm.kp (run_fnG (us := [.ref a]) (vs := [.ref a]) F hr hgd hb (hx σ) I1 (.cons rfl .nil) q)
/-! ### makers -/
theorem run_makeG {pins : List (Addr × Obj)} {σ : L2.St} {H : Hp} {s : Shared} {Q : VK} {us : List Value} {vs : List V} (M : Mk X.K C f) (F : FnG X.prog X.w X.K X.mg X.base CX k f fd ps sp) (hr : Room (k + 1) X.A) (hgd : X.A.guards = some []) (hb : Binds X.K fd ps [])
    (hx : PassesAt CX X σ (E σ)) (I : Inv X pins σ H s) (r : Vals vs us)
    (h : ∀ x dx, H x = none → H dx = none → dx ≠ x → sp (.ref x :: vs) (upd (upd H dx (.own x)) x (.ins C dx [])) (fun v H2 => v = .non ∧ Q (.ref x) H2) (E σ)) :
    wpAny (model X.prog X.w) X.A (call (.ref C) us) (EP X pins σ Q) X.xe s := by
  have hq := h (s.heap.objs.size + 1) s.heap.objs.size (I.hok.fresh (Nat.le_succ _)) (I.hok.fresh (Nat.le_refl _)) (Nat.ne_of_lt (Nat.lt_succ_self _))
  have I2 := Inv.made (C := C) I
  have r2 : Vals (V.ref (s.heap.objs.size + 1) :: vs) (Value.ref (s.heap.objs.size + 1) :: us) := .cons rfl r
  have hl : (Value.ref (s.heap.objs.size + 1) :: us).length = ps.length := by
    have e := r2.length
    rw [F.len _ _ _ _ hq] at e
    exact e.symm
  have b := hb _ (Value.ref (s.heap.objs.size + 1) :: us) I2.kIn (by rw [List.append_nil]; exact hl)
  rw [List.append_nil] at b
  refine wpAny_call (make_map (f := f) I.kIn M.makes M.init (beq_iff_eq.mp M.fn) (codeAny_mono (F.run _ X.stack _ _ ⟨Value.ref (s.heap.objs.size + 1) :: us, []⟩ (Value.ref (s.heap.objs.size + 1) :: us) _ _ (E σ) (hr.make C us []) (by rw [guards_make]; exact hgd)
    (I2.env0.make C us []) b r2 hq) fun r s' hq' => ?_))
  cases r with
  | error e => exact hx pins _ _ e s' I2 hq'
  | ok fl =>
    cases fl with
    | ret u =>
      obtain ⟨v, H', I3, rv, ev, q3⟩ := I2.after hq'
      subst ev
      exact ⟨rv, ⟨V.ref (s.heap.objs.size + 1), H', I3, rfl, q3⟩⟩
    | next => exact False.elim hq'
    | brk => exact False.elim hq'
    | cont => exact False.elim hq'
def tMakeG (C : Addr) (sp : Sp) (E : L2.St → XK) (t : TA) : TE := fun σ H Q => t σ H fun vs H1 => ∀ x dx, H1 x = none → H1 dx = none → dx ≠ x →
  sp (.ref x :: vs) (upd (upd H1 dx (.own x)) x (.ins C dx [])) (fun v H2 => v = .non ∧ Q (.ref x) H2) (E σ)
theorem pe_makeG {e : Expr} (M : Mk X.K C f) (F : FnG X.prog X.w X.K X.mg X.base CX k f fd ps sp) (hr : Room (k + 1) X.A) (hgd : X.A.guards = some []) (hg : Gl X x) (hm : X.mg x = some (.ref C)) (hb : Binds X.K fd ps []) (hx : ∀ σ, PassesAt CX X σ (E σ))
    (ha : PA X (e :: es) t) (hdb : (x == ("__debug__" : Str)) = false) (he : starEach (e :: es) X.env = (false, eval e X.env) :: starEach es X.env) (hpl : (backTo pos (starEach es X.env)).any (·.1) = false) :
    PE X (.Call (.Name x p) (e :: es) [] pos) (tMakeG C sp E t) := by
  refine ⟨fun pins s σ H Q I h => ?_⟩
  refine wpAny_Call_Name_kw (ld_glob I hg hm ?_ hdb)
  refine PySem.W.callWith_K (h₀ := X.base) I.ok.mod.kin M.kp (thn (ha.run pos pins s σ H _ I h) fun us s1 ⟨vs, H1, I1, r, q⟩ => ⟨I1.kIn, ?_⟩) he hpl
  exact run_makeG M F hr hgd hb (hx σ) I1 r q
theorem pe_makeG0 (M : Mk X.K C f) (F : FnG X.prog X.w X.K X.mg X.base CX k f fd ps sp) (hr : Room (k + 1) X.A) (hgd : X.A.guards = some []) (hg : Gl X x) (hm : X.mg x = some (.ref C)) (hb : Binds X.K fd ps []) (hx : ∀ σ, PassesAt CX X σ (E σ))
    (hdb : (x == ("__debug__" : Str)) = false) : PE X (.Call (.Name x p) [] [] pos) (tMakeG C sp E tNil) := by
  refine ⟨fun pins s σ H Q I h => ?_⟩
  refine wpAny_Call_Name_kw (ld_glob I hg hm ?_ hdb)
  exact PySem.W.callWith_K0 I.kIn M.kp (run_makeG (us := []) M F hr hgd hb (hx σ) I .nil h)
end
end Z
end

section
/-! ZK: shapes of the text, targets, what is walked. -/
namespace Z
open PySem PySem.Spec PyProof.Rows L2
/-! ### shapes -/
theorem noSet {e : Expr} (h : isSet e = false) (op : CmpOp) : behindInMarks op e = false := by
  cases e <;> simp [isSet] at h <;> simp [behindInMarks]
theorem noFold {e : Expr} (h : isSet e = false) (env : Env) : ∀ x, foldedSetIterable e env x = pure x := by
  intro x
  cases e <;> simp [isSet] at h <;> rfl
theorem star_each {e : Expr} {es : List Expr} {env : Env} (h : isStar e = false) : starEach (e :: es) env = (false, eval e env) :: starEach es env := by
  cases e <;> simp [isStar] at h <;> rfl
theorem star_plain {env : Env} {pos : Pos} : ∀ {es : List Expr}, (es.all fun e => !isStar e) = true → (backTo pos (starEach es env)).any (·.1) = false
  | [], _ => by simp [starEach, backTo]
  | e :: es, h => by
    simp only [List.all_cons, Bool.and_eq_true, Bool.not_eq_true'] at h
    rw [star_each h.1]
    show (false || (backTo pos (starEach es env)).any (·.1)) = false
    rw [star_plain h.2]; rfl
theorem chkEs_star {g : SC} : ∀ {ms : List ME} {es : List Expr}, chkEs g ms es = true → (es.all fun e => !isStar e) = true
  | [], es, h => by
    simp only [chkEs, List.isEmpty_iff] at h
    subst h; rfl
  | m :: ms, [], h => by simp [chkEs] at h
  | m :: ms, e :: es, h => by
    simp only [chkEs, Bool.and_eq_true] at h
    simp only [List.all_cons, Bool.and_eq_true]
    exact ⟨h.1.1, chkEs_star h.2⟩
theorem chkEs_len {g : SC} : ∀ {ms : List ME} {es : List Expr}, chkEs g ms es = true → ms.length = es.length
  | [], es, h => by
    simp only [chkEs, List.isEmpty_iff] at h
    subst h; rfl
  | m :: ms, [], h => by simp [chkEs] at h
  | m :: ms, e :: es, h => by
    simp only [chkEs, Bool.and_eq_true] at h
    simp [chkEs_len h.2]
theorem asg_each {e : Expr} {es : List Expr} {env : Env} (h : isStar e = false) : assignEach (e :: es) env = (false, assign e env) :: assignEach es env := by
  cases e <;> simp [isStar] at h <;> rfl
theorem chkGs_star {g : SC} : ∀ {ms : List MG} {es : List Expr}, chkGs g ms es = true → (es.all fun e => !isStar e) = true ∧ ms.length = es.length
  | [], es, h => by
    simp only [chkGs, List.isEmpty_iff] at h
    subst h; exact ⟨rfl, rfl⟩
  | m :: ms, [], h => by simp [chkGs] at h
  | m :: ms, e :: es, h => by
    simp only [chkGs, Bool.and_eq_true] at h
    obtain ⟨h1, h2⟩ := chkGs_star h.2
    simp only [List.all_cons, Bool.and_eq_true]
    exact ⟨⟨h.1.2, h1⟩, by simp [h2]⟩
theorem asg_len {env : Env} : ∀ {es : List Expr}, (es.all fun e => !isStar e) = true → (assignEach es env).length = es.length ∧ (assignEach es env).findIdx? (·.1) = none
  | [], _ => by simp [assignEach]
  | e :: es, h => by
    simp only [List.all_cons, Bool.and_eq_true, Bool.not_eq_true'] at h
    rw [asg_each h.1]
    obtain ⟨h1, h2⟩ := asg_len (env := env) h.2
    exact ⟨by simp [h1], by simp [List.findIdx?_cons, h2]⟩
theorem noSwap {e : Expr} {t : Option Expr} {l : Nat} {env : Env} (h : isComp e = false) : swapsWith e t l env = pure false := by
  cases e <;> simp [isComp] at h <;> rfl
theorem plainIx {e : Expr} (h : isSlice e = false) : PlainIx e := by
  intro o i
  cases e <;> simp [isSlice] at h <;> rfl
theorem plain_true {e : Expr} {env : Env} (h : plainT e = true) (whole : PySem.Sem Value) : isTrue e env whole = (do let v ← whole; standAt e.pos; holding [v] (truthy v)) := by
  cases e <;> simp [plainT] at h <;> try rfl
  rename_i op x pos
  cases op <;> simp at h <;> rfl

theorem takesN {X : Cx} : L2N.Takes X fun _ _ _ _ => False := fun _ _ x => by
  obtain ⟨_, _, _, _, _, _, _, _, _, _, _, _, _, _, _, _, z⟩ := x
  exact z.elim
/-! ### the context of a body -/
def allBI : List BI := [.len, .abs, .int, .list, .sum, .all, .any, .repr, .str, .max, .min, .sorted, .tuple]
theorem allBI_all (b : BI) : b ∈ allBI := by cases b <;> decide
def allTy : List Ty := [.int, .bool, .str, .list, .tuple]
theorem allTy_all (b : Ty) : b ∈ allTy := by cases b <;> decide
def frees : List Str := rangeN :: "isinstance" :: "enumerate" :: "dict" :: (allBI.map biName ++ allTy.map tyName)
theorem mem_frees_bi (b : BI) : biName b ∈ frees := by
  unfold frees
  exact List.mem_cons_of_mem _ (List.mem_cons_of_mem _ (List.mem_cons_of_mem _ (List.mem_cons_of_mem _ (List.mem_append_left _ (List.mem_map.mpr ⟨b, allBI_all b, rfl⟩)))))
theorem mem_frees_ty (t : Ty) : tyName t ∈ frees := by
  unfold frees
  exact List.mem_cons_of_mem _ (List.mem_cons_of_mem _ (List.mem_cons_of_mem _ (List.mem_cons_of_mem _ (List.mem_append_right _ (List.mem_map.mpr ⟨t, allTy_all t, rfl⟩)))))
/-- what stands of an error class -/
structure EOk (X : Cx) (T : Tab) (M : Nm) (S : Sem) (k : Nat) (c : Nat) (ei : EI) : Prop where
  adr : X.mg ei.name = some (.ref (M.ead c))
  xf : XfC X.K (M.ead c)
  ec : ExcC X.K (M.ead c)
  no : ∀ q ∈ ei.fl, PySem.W.findIn X.K (.ref (M.ead c)) (M.fnm q.1) = some none
  sub : ∀ (c' : Nat) (ei' : EI), T.errs[c']? = some ei' → PySem.W.exmOne X.K (.ref (M.ead c)) (.ref (M.ead c')) = some (S.sub c c') ∧ PySem.W.kitOne X.K (.ref (M.ead c)) (.ref (M.ead c')) = some (S.sub c c')
  xin : S.xin c = some (ei.np, ei.fl)
  make : (ei.fl = [] ∧ ei.np = 0 ∧ PySem.W.excIn X.K (M.ead c) He.veBase "ValueError.__new__" = true ∧ PySem.W.keepIn X.K (.ref (M.ead c)) = true ∧ Raises X (.ref (M.ead c))) ∨
    (0 < ei.np ∧ ei.np ≤ 100 ∧ OexC X.K (M.ead c) ∧ ∃ fI fd ps j, j + 1 ≤ k ∧ PySem.W.findIn X.K (.ref (M.ead c)) "__init__" = some (some (.ref fI)) ∧ PySem.W.typeIn X.K (.ref fI) = some (.type "function") ∧
      FnOk X.prog X.w X.K X.mg X.base (L2N.CX X.prog X.w) j fI fd ps (spI (M.ead c) (ei.fl.map fun q => (M.fnm q.1, q.2)) ei.np) ∧ Binds X.K fd ps [])
/-- the error that the clause around names -/
def CurOk (X : Cx) (M : Nm) (exn : Option Nat) : Prop := match exn with
  | none => M.cur = none
  | some i => ∃ (X0 : Cx) (a : Addr) (oe : Obj) (cls : Value) (d : Option Addr) (pn : List (Addr × Obj)), X = X0.suite a ((a, oe) :: pn) ∧ M.cur = some (i, a, cls, d) ∧ Zc cls d oe ∧ ∃ vs, oe.data = .fields vs
/-- what stands of a class -/
structure COk (X : Cx) (M : Nm) (S : Sem) (k : Nat) (c : Nat) (ci : CI) : Prop where
  adr : X.mg ci.name = some (.ref (M.cad c))
  cl : Cls X.K (M.cad c)
  no : ∀ f ∈ ci.fields, NoAttr X.K (M.cad c) (M.fnm f)
  meth : ∀ (m : Str) (f n : Nat), (m, f, n) ∈ ci.meths → ∃ (a : Addr) (fd : FuncData) (ps : List Str), Meth X.K (M.cad c) m a ∧ FnG X.prog X.w X.K X.mg X.base (L2N.CX X.prog X.w) k a fd ps (spOf M X.K (S.cal f) n) ∧ Binds X.K fd ps []
  make : ∀ (f n : Nat), (("__init__" : Str), f, n) ∈ ci.meths → ∃ (a : Addr) (fd : FuncData) (ps : List Str) (j : Nat), j + 1 ≤ k ∧ Mk X.K (M.cad c) a ∧ FnG X.prog X.w X.K X.mg X.base (L2N.CX X.prog X.w) j a fd ps (spOf M X.K (S.cal1 f) n) ∧ Binds X.K fd ps []
/-- a module's dict, its values -/
def DtOk (K : PySem.W.Frag) (w : World) (a : Addr) (kvs : List (Sg × PV)) : Prop := ∃ es n, KDict K w a es n ∧ ∀ q ∈ kvs, ∃ u v, PySem.W.nsIn K a (mkS q.1) = some (some u) ∧ L2.RelV v u ∧ RP K (fun _ => none) q.2 v
structure Cok (X : Cx) (g : SC) (M : Nm) (S : Sem) (W : WX) (k : Nat) : Prop where
  N : X.N = g.N
  sc : X.env.scope = g.sc
  fn : ∀ x, g.fn x = true → X.fn x = true
  nd : X.N.Nodup
  calm : g.hot = false → X.calm = true
  hr : g.hot = false → Room k X.A
  hrH : g.hot = true → L2H.RoomH k X.A
  hotc : g.hot = true → L2H.HotC X
  un : room2 X
  gd : g.hot = false → X.A.guards = some []
  gdx : g.exn.isSome = true → X.A.guards = some []
  tab : ∀ (i : Nat) (x : Str), g.T.tabs[i]? = some x → ∃ (ps : List Sg) (a : Addr), S.tab i = some ps ∧ X.mg x = some (.ref a) ∧ (∀ H, SqT X.K H a ((ps.map mkS).map V.str)) ∧ (∃ o, X.K.lookup a = some o ∧ o.cls = .type "tuple" ∧ o.dict = none) ∧ ∀ p ∈ ps, okS p = true
  dtab : ∀ (i : Nat) (x : Str), g.T.dtabs[i]? = some x → ∃ (kvs : List (Sg × PV)) (a : Addr), S.dtab i = some kvs ∧ X.mg x = some (.ref a) ∧ DtOk X.K X.w a kvs
  fr : ∀ x ∈ frees, X.mg x = none
  glb : ∀ (i : Nat) (x : Str) (p : PV), g.T.glbs[i]? = some x → S.glb i = some p → ∃ u v, X.mg x = some u ∧ L2.RelV v u ∧ flat p = true ∧ RP X.K (fun _ => none) p v
  callsH : ∀ (f : Nat) (x : Str) (n : Nat), g.T.defs[f]? = some (some x, n) → g.T.hots.contains f = true → ∃ (a : Addr) (fd : FuncData) (ps : List Str), L2H.FnH X.prog X.w X.K X.mg X.base (L2N.CX X.prog X.w) k a fd ps (spOf M X.K (S.cal f) n) ∧ X.mg x = some (.ref a) ∧
    PySem.W.keepIn X.K (.ref a) = true ∧ Binds X.K fd ps []
  calls : g.hot = false → ∀ (f : Nat) (x : Str) (n : Nat), g.T.defs[f]? = some (some x, n) → ∃ (a : Addr) (fd : FuncData) (ps : List Str), FnG X.prog X.w X.K X.mg X.base (L2N.CX X.prog X.w) k a fd ps (spOf M X.K (S.cal f) n) ∧ X.mg x = some (.ref a) ∧
    PySem.W.keepIn X.K (.ref a) = true ∧ Binds X.K fd ps []
  errs : ∀ (c : Nat) (ei : EI), g.T.errs[c]? = some ei → EOk X g.T M S k c ei
  cls : ∀ (c : Nat) (ci : CI), g.T.cls[c]? = some ci → COk X M S k c ci
  nf : S.nf ≤ g.T.fnames.length
  xerr : ∀ (c : Nat), S.xin c ≠ none → ∃ ei, g.T.errs[c]? = some ei
  finj : ∀ f f', M.fnm f = M.fnm f' → f = f'
  fname : ∀ (f : Nat) (x : Str), g.T.fnames[f]? = some x → M.fnm f = x
  cur : CurOk X M g.exn
  cold : g.hot = false → g.exn = none
  stk : g.top = true → X.stack = X.env :: X.outer
  frm : g.top = true → X.env.frame = some X.env.locals
  takes : L2N.Takes X W
  pass : PassesOwn (model X.prog X.w) X.A X.env X.xe
section
variable {X : Cx} {g : SC} {M : Nm} {S : Sem} {W : WX} {k : Nat}
theorem Cok.en (C : Cok X g M S W k) : X.mg "enumerate" = none := C.fr _ (by unfold frees; simp)
theorem Cok.dct (C : Cok X g M S W k) : X.mg "dict" = none := C.fr _ (by unfold frees; simp)
theorem Cok.bi (C : Cok X g M S W k) (b : BI) : X.mg (biName b) = none := C.fr _ (mem_frees_bi b)
theorem Cok.bt (C : Cok X g M S W k) (t : Ty) : X.mg (tyName t) = none := C.fr _ (mem_frees_ty t)
theorem Cok.br (C : Cok X g M S W k) : X.mg rangeN = none := C.fr _ (by unfold frees; exact List.mem_cons_self)
theorem Cok.bis (C : Cok X g M S W k) : X.mg "isinstance" = none := C.fr _ (by unfold frees; exact List.mem_cons_of_mem _ List.mem_cons_self)
theorem Cok.gl (C : Cok X g M S W k) {x : Str} (h : gl? g x = true) : Gl X x ∧ (x == ("__debug__" : Str)) = false := by
  simp only [gl?, Bool.and_eq_true, decide_eq_true_eq, Bool.not_eq_true'] at h
  exact ⟨show X.env.scope.names.lookup x = _ by rw [C.sc]; exact h.1, h.2⟩
theorem Cok.vis (C : Cok X g M S W k) {x : Str} (h : vis? g x = true) : Vis X.env.scope x ∧ (x == ("__debug__" : Str)) = false ∧ (x == ("__classdict__" : Str)) = false := by
  simp only [vis?, Bool.and_eq_true, Bool.not_eq_true'] at h
  refine ⟨?_, h.1.2, h.2⟩
  have h1 := h.1.1
  unfold Vis
  rw [C.sc]
  split at h1
  · exact .inl (by assumption)
  · exact .inr (.inl (by assumption))
  · exact .inr (.inr (by assumption))
  · cases h1
theorem Cok.loc (C : Cok X g M S W k) {x : Str} (h : loc? g x = true) : L2.Loc X.env.scope x ∧ (X.fn x = true ∨ X.env.scope.names.lookup x = some .local) := by
  unfold loc? at h
  unfold L2.Loc
  rw [C.sc]
  split at h
  · exact ⟨.inl (by assumption), .inr (by assumption)⟩
  · exact ⟨.inr (by assumption), .inl (C.fn x h)⟩
  · cases h

/-! ### targets -/
theorem wipe_get (σ : L2.St) (i : Nat) : ∀ vs : List Nat, (wipe σ vs)[i]? = if i ∈ vs then (if i < σ.length then some none else none) else σ[i]?
  | [] => by simp [wipe]
  | v :: vs => by
    have ih := wipe_get σ i vs
    unfold wipe
    by_cases hv : v = i
    · subst hv
      rw [if_pos List.mem_cons_self]
      by_cases hl : v < σ.length
      · rw [if_pos hl, List.getElem?_set_self (by rw [wipe_length]; exact hl)]
      · rw [if_neg hl, List.getElem?_eq_none (by rw [List.length_set, wipe_length]; omega)]
    · rw [List.getElem?_set_ne hv, ih]
      have : (i ∈ v :: vs) ↔ i ∈ vs := by
        rw [List.mem_cons]
        exact ⟨fun h => h.elim (fun e => absurd e.symm hv) (fun x => x), .inr⟩
      by_cases hm : i ∈ vs
      · rw [if_pos hm, if_pos (this.mpr hm)]
      · rw [if_neg hm, if_neg (fun h => hm (this.mp h))]
theorem wipe_eq {σ τ : L2.St} {vs : List Nat} (hl : σ.length = τ.length) (h : ∀ i, i ∉ vs → σ[i]? = τ[i]?) : wipe σ vs = wipe τ vs := by
  apply List.ext_getElem?
  intro i
  rw [wipe_get, wipe_get, hl]
  split
  · rfl
  · exact h i (by assumption)
theorem wipe_set {σ : L2.St} {i : Nat} {x : Option V} {vs : List Nat} (h : i ∈ vs) : wipe (σ.set i x) vs = wipe σ vs :=
  wipe_eq (by simp) fun j hj => List.getElem?_set_ne fun e : i = j => hj (by rw [← e]; exact h)
theorem wipe_wipe {σ : L2.St} {vs : List Nat} : wipe (wipe σ vs) vs = wipe σ vs :=
  wipe_eq (wipe_length σ vs) fun i hi => by rw [wipe_get, if_neg hi]
theorem wipeL_get (φ : Slots) (i : Nat) : ∀ vs : List Nat, (wipeL φ vs)[i]? = if i ∈ vs then (if i < φ.length then some none else none) else φ[i]?
  | [] => by simp [wipeL]
  | v :: vs => by
    have ih := wipeL_get φ i vs
    have wl : ∀ vs : List Nat, (wipeL φ vs).length = φ.length := by
      intro vs
      induction vs with
      | nil => rfl
      | cons v vs ih => unfold wipeL; rw [List.length_set, ih]
    unfold wipeL
    by_cases hv : v = i
    · subst hv
      rw [if_pos List.mem_cons_self]
      by_cases hl : v < φ.length
      · rw [if_pos hl, List.getElem?_set_self (by rw [wl]; exact hl)]
      · rw [if_neg hl, List.getElem?_eq_none (by rw [List.length_set, wl]; omega)]
    · rw [List.getElem?_set_ne hv, ih]
      have : (i ∈ v :: vs) ↔ i ∈ vs := by
        rw [List.mem_cons]
        exact ⟨fun h => h.elim (fun e => absurd e.symm hv) (fun x => x), .inr⟩
      by_cases hm : i ∈ vs
      · rw [if_pos hm, if_pos (this.mpr hm)]
      · rw [if_neg hm, if_neg (fun h => hm (this.mp h))]
theorem wipeL_length (φ : Slots) : ∀ vs : List Nat, (wipeL φ vs).length = φ.length
  | [] => rfl
  | v :: vs => by unfold wipeL; rw [List.length_set, wipeL_length φ vs]
theorem SL.wipe {K : PySem.W.Frag} {F : Hp} {ρ : List Addr} {σ : L2.St} {φ : Slots} (h : SL M K F ρ σ φ) (vs : List Nat) : SL M K F ρ (wipe σ vs) (wipeL φ vs) := by
  refine ⟨by rw [wipe_length, wipeL_length]; exact h.1, fun i x hx => ?_⟩
  rw [wipeL_get] at hx
  rw [wipe_get]
  split at hx
  · split at hx
    · cases hx
    · cases hx
  · rename_i hm
    rw [if_neg hm]
    exact h.2 i x hx
def Ownly (is : List Nat) (σ σ' : L2.St) : Prop := ∀ vs : List Nat, (∀ i ∈ is, i ∈ vs) → wipe σ' vs = wipe σ vs
def RdG (M : Nm) (K : PySem.W.Frag) (t : TG) (m : MG) : Prop := ∀ x v φ φ' σ F ρ H st Q, HR' M K F ρ H st → SL M K F ρ σ φ → RL K F ρ x v → asgG m x φ = some φ' → (∀ σ', SL M K F ρ σ' φ' → Ownly (slotsG m) σ σ' → Q σ' H) → t v σ H Q
def RdGs (M : Nm) (K : PySem.W.Frag) (t : TGs) (m : List MG) : Prop := ∀ xs vs φ φ' σ F ρ H st Q, HR' M K F ρ H st → SL M K F ρ σ φ → RLs K F ρ xs vs → asgGs m xs φ = some φ' → (∀ σ', SL M K F ρ σ' φ' → Ownly (slotsGs m) σ σ' → Q σ' H) → t vs σ H Q
theorem pg_or {tg : Expr} {t t' : TG} (h : PG X tg t) (h' : PG X tg t') : PG X tg (fun v σ H Q => t v σ H Q ∨ t' v σ H Q) := ⟨fun pins s σ H v u Q I r q => by
  rcases q with q | q
  · exact h.run pins s σ H v u Q I r q
  · exact h'.run pins s σ H v u Q I r q⟩
mutual
theorem tgt (C : Cok X g M S W k) : ∀ (m : MG) (e : Expr), chkG g m e = true → ∃ t, PG X e t ∧ RdG M X.K t m
  | .nm i, e, h => by
    cases e <;> simp only [chkG, Bool.and_eq_true, decide_eq_true_eq, reduceCtorEq] at h
    obtain ⟨hl, hf⟩ := C.loc h.2
    refine ⟨_, pg_name (i := i) C.nd (by rw [C.N]; exact h.1) hl hf, ?_⟩
    intro x v φ φ' σ F ρ H st Q hh hs r e q
    simp only [asgG, Option.some.injEq] at e
    subst e
    exact q _ (hs.set i r) fun vs hv => wipe_set (hv i (by simp [slotsG]))
  | .tp ms, e, h => by
    cases e <;> simp only [chkG, Bool.and_eq_true, Bool.not_eq_true', Bool.false_eq_true] at h
    rename_i es kk pos
    obtain ⟨hhot, h⟩ := h
    obtain ⟨t, ht, hr⟩ := tgts C ms es h
    obtain ⟨h1, h2⟩ := chkGs_star h
    obtain ⟨l1, l2⟩ := asg_len (env := X.env) h1
    refine ⟨_, pg_or (pg_tup (C.calm hhot) ht rfl l2) (pg_lst (C.calm hhot) ht rfl l2), ?_⟩
    intro x v φ φ' σ F ρ H st Q hh hs r e q
    have len : ∀ (ms : List MG) (xs : List LV) (φ φ' : Slots), asgGs ms xs φ = some φ' → xs.length = ms.length := by
      intro ms
      induction ms with
      | nil => intro xs φ φ' e; cases xs <;> simp [asgGs] at e ⊢
      | cons m ms ih =>
        intro xs φ φ' e
        cases xs with
        | nil => simp [asgGs] at e
        | cons x xs =>
          unfold asgGs at e
          split at e
          · simp [ih _ _ _ e]
          · cases e
    have go : ∀ (xs : List LV) (vs : List V), RLs X.K F ρ xs vs → asgGs ms xs φ = some φ' → vs.length = (assignEach es X.env).length ∧ t vs σ H Q := fun xs vs rl e => by
      refine ⟨by rw [l1, ← rl.length, len _ _ _ _ e, h2], ?_⟩
      exact hr xs vs φ φ' σ F ρ H st Q hh hs rl e fun σ1 h1 h2 => q σ1 h1 (by simpa only [slotsG] using h2)
    cases x with
    | ref n => simp [asgG] at e
    | exn _ => simp [asgG] at e
    | tup xs =>
      simp only [asgG] at e
      simp only [RL] at r
      obtain ⟨a, vs, e1, e2, e3⟩ := r
      obtain ⟨g1, g2⟩ := go xs vs e3 e
      exact .inl ⟨a, vs, e1, .inl (.inl (hh.sub _ _ e2)), g1, g2⟩
    | pv p =>
      cases p <;> simp only [asgG, reduceCtorEq] at e
      · simp only [RL, RP] at r
        obtain ⟨a, vs, e1, e2, e3⟩ := r
        obtain ⟨g1, g2⟩ := go _ vs (RLs_pv.mpr e3) e
        exact .inl ⟨a, vs, e1, .inl (.inl (hh.sub _ _ e2)), g1, g2⟩
      · simp only [RL, RP] at r
        obtain ⟨a, vs, e1, e2, e3⟩ := r
        obtain ⟨g1, g2⟩ := go _ vs (RLs_pv.mpr e3) e
        exact .inr ⟨a, vs, e1, .inl (.inl (hh.sub _ _ e2)), g1, g2⟩
theorem tgts (C : Cok X g M S W k) : ∀ (ms : List MG) (es : List Expr), chkGs g ms es = true → ∃ t, PGs X es t ∧ RdGs M X.K t ms
  | [], es, h => by
    simp only [chkGs, List.isEmpty_iff] at h
    subst h
    refine ⟨_, pgs_nil, ?_⟩
    intro xs vs φ φ' σ F ρ H st Q hh hs r e q
    cases xs with
    | nil =>
      simp only [asgGs, Option.some.injEq] at e
      subst e
      simp only [RLs] at r
      exact ⟨r, q σ hs fun _ _ => rfl⟩
    | cons _ _ => simp [asgGs] at e
  | m :: ms, [], h => by simp [chkGs] at h
  | m :: ms, e :: es, h => by
    simp only [chkGs, Bool.and_eq_true, Bool.not_eq_true'] at h
    obtain ⟨t, ht, hr⟩ := tgt C m e h.1.1
    obtain ⟨t', ht', hr'⟩ := tgts C ms es h.2
    refine ⟨_, pgs_cons ht ht' (by rw [asg_each h.1.2]; rfl), ?_⟩
    intro xs vs φ φ' σ F ρ H st Q hh hs r e q
    cases xs with
    | nil => simp [asgGs] at e
    | cons x xs =>
      simp only [RLs] at r
      obtain ⟨v, r', e1, e2, e3⟩ := r
      unfold asgGs at e
      split at e
      · rename_i φ1 e4
        refine ⟨v, r', e1, hr x v φ φ1 σ F ρ H st _ hh hs e2 e4 fun σ1 hs1 o1 => ?_⟩
        exact hr' xs r' φ1 φ' σ1 F ρ H st Q hh hs1 e3 e fun σ2 hs2 o2 => q σ2 hs2 fun us hu => by
          rw [o2 us fun i hi => hu i (by simp [slotsGs, hi]), o1 us fun i hi => hu i (by simp [slotsGs, hi])]
      · cases e
end
end
end Z
end

section
/-! ZL: lists of expressions, what is walked. -/
namespace Z
open PySem PySem.Spec PyProof.Rows L2
section
variable (X : Cx) (M : Nm) (S : Sem) (W : WX)
def SE (m : ME) (e : Expr) : Prop := ∃ t, PE X e t ∧ RdE M X.K W t (evE S m)
def ST (m : MT) (e : Expr) : Prop := ∃ t, PT X e t ∧ RdT M X.K W t (evT S m)
def SEs : List ME → List Expr → Prop
  | [], es => es = []
  | m :: ms, es => ∃ e r, es = e :: r ∧ isStar e = false ∧ SE X M S W m e ∧ SEs ms r
def STs : List MT → List Expr → Prop
  | [], es => es = []
  | m :: ms, es => ∃ e r, es = e :: r ∧ ST X M S W m e ∧ STs ms r
end
section
variable {X : Cx} {M : Nm} {S : Sem} {W : WX}
theorem SEs.pa : ∀ {ms : List ME} {es : List Expr}, SEs X M S W ms es → ∃ t, PA X es t ∧ RdA M X.K W t (evEs S ms)
  | [], es, h => by
    have h' : es = [] := h
    subst h'
    refine ⟨_, pa_nil, ?_⟩
    intro σ H Q φ F ρ st r hh hs e p
    simp only [evEs, Option.some.injEq] at e
    subst e
    exact p F ρ H [] (G.refl F ρ H) hh (by simp only [RLs])
  | m :: ms, es, h => by
    obtain ⟨e, r, h1, h2, ⟨t, h3, h4⟩, h5⟩ := h
    subst h1
    obtain ⟨t', h6, h7⟩ := SEs.pa h5
    refine ⟨_, pa_cons h3 h6 (star_each h2), ?_⟩
    intro σ H Q φ F ρ st res hh hs e p
    simp only [evEs] at e
    refine h4.bindA hh hs e p fun x st1 F1 ρ1 H1 v e1 g1 h1 r1 p1 => ?_
    refine h7.bindA h1 (hs.g g1) e1 p1 fun xs st2 F2 ρ2 H2 vs e2 g2 h2 r2 p2 => ?_
    simp only [Option.some.injEq] at e2
    subst e2
    exact p2 F2 ρ2 H2 (v :: vs) (G.refl F2 ρ2 H2) h2 (by
      simp only [RLs]
      exact ⟨v, vs, rfl, RL.mono g2.sub g2.pre _ _ r1, r2⟩)
theorem SEs.star : ∀ {ms : List ME} {es : List Expr}, SEs X M S W ms es → (es.all fun e => !isStar e) = true
  | [], es, h => by
    have h' : es = [] := h
    subst h'; rfl
  | m :: ms, es, h => by
    obtain ⟨e, r, h1, h2, _, h5⟩ := h
    subst h1
    simp [h2, SEs.star h5]
theorem SEs.len : ∀ {ms : List ME} {es : List Expr}, SEs X M S W ms es → ms.length = es.length
  | [], es, h => by
    have h' : es = [] := h
    subst h'; rfl
  | m :: ms, es, h => by
    obtain ⟨e, r, h1, h2, _, h5⟩ := h
    subst h1
    simp [SEs.len h5]
end

/-! ### what is walked -/
/-- an iterator over trees that lie in F -/
structure ItOk (K : PySem.W.Frag) (J : It) (xs : List PV) (F : Hp) : Prop where
  at_ : ∀ (i : Nat) (p : PV) (F' H' : Hp), xs[i]? = some p → Sub F F' → Sub F' H' → J.go i H' ∧ ∀ x H'', J.yld i H' x H'' → (H'' = H' ∧ RP K F' p x) ∨ ∃ T o, H' T = none ∧ H'' = upd H' T o ∧ RP K (upd F' T o) p x
  stop : ∀ F' H', Sub F F' → Sub F' H' → J.stop xs.length H'
def iSeq (K : PySem.W.Frag) (tl : TE) : TI := fun σ H R => tl σ H fun x H1 => ∃ a, x = .ref a ∧ (((∃ xs, SqL K H1 a xs) ∧ R (Itl K a) H1) ∨ ((∃ xs, SqT K H1 a xs) ∧ R (Itt K a) H1))
section
variable {X : Cx} {tg : Expr}
theorem pi_seq {l : Expr} {tl : TE} (hl : PE X l tl) : PI X tg l (iSeq X.K tl) := by
  refine ⟨fun pins s σ H R I h => ?_⟩
  refine thn (hl.run pins s σ H _ I h) fun v s1 ⟨x, H1, I1, r1, q1⟩ => ?_
  obtain ⟨a, e, q⟩ := q1
  subst e
  cases r1
  rcases q with ⟨⟨xs, hq⟩, q⟩ | ⟨⟨xs, hq⟩, q⟩
  · obtain ⟨its, rv, p, hz⟩ := I1.list hq
    refine wpAny_pyIter_list p.isList ?_
    refine ⟨s1.heap.objs.size, [s1.heap.objs.size], _, _, H1, rfl, I1.kept (t' := s1.toks) fun b o e => Heap.get?_push_of_some _ e, turn_list a _, ⟨_, Heap.get?_push_size _ rfl, rfl, rfl⟩, fun b hb => ?_, q⟩
    have e : b = s1.heap.objs.size := by simpa using hb
    subst e
    exact I1.fpOk (Nat.le_refl _) (I1.hok.fresh (Nat.le_refl _))
  · obtain ⟨its, rv, p, hz⟩ := I1.tuple hq
    refine wpAny_pyIter_tuple (show s1.heap.IsTuple a its.toArray from p) ?_
    refine ⟨s1.heap.objs.size, [s1.heap.objs.size], _, _, H1, rfl, I1.kept (t' := s1.toks) fun b o e => Heap.get?_push_of_some _ e, turn_tuple a _, ⟨_, Heap.get?_push_size _ rfl, rfl, rfl⟩, fun b hb => ?_, q⟩
    have e : b = s1.heap.objs.size := by simpa using hb
    subst e
    exact I1.fpOk (Nat.le_refl _) (I1.hok.fresh (Nat.le_refl _))
end
section
variable {K : PySem.W.Frag} {F F' H H' : Hp}
theorem it_list {a : Addr} {vs : List V} {xs : List PV} (h : F a = some (.lst vs)) (r : RPs K F xs vs) : ItOk K (Itl K a) xs F := by
  refine ⟨fun i p F' H' e s s' => ?_, fun F' H' s s' => ⟨vs, .inl (.inl (s' _ _ (s _ _ h))), by rw [r.length]; exact Nat.le_refl _⟩⟩
  have hq : SqL K H' a vs := .inl (.inl (s' _ _ (s _ _ h)))
  obtain ⟨v, e1, e2⟩ := r.get e
  refine ⟨⟨vs, v, hq, e1⟩, fun x H'' y => .inl ⟨y.1, ?_⟩⟩
  have := y.2 vs hq
  rw [e1] at this
  cases this
  exact RP.mono s _ _ e2
theorem it_tup {a : Addr} {vs : List V} {xs : List PV} (h : F a = some (.tup vs)) (r : RPs K F xs vs) : ItOk K (Itt K a) xs F := by
  refine ⟨fun i p F' H' e s s' => ?_, fun F' H' s s' => ⟨vs, .inl (.inl (s' _ _ (s _ _ h))), by rw [r.length]; exact Nat.le_refl _⟩⟩
  have hq : SqT K H' a vs := .inl (.inl (s' _ _ (s _ _ h)))
  obtain ⟨v, e1, e2⟩ := r.get e
  refine ⟨⟨vs, v, hq, e1⟩, fun x H'' y => .inl ⟨y.1, ?_⟩⟩
  have := y.2 vs hq
  rw [e1] at this
  cases this
  exact RP.mono s _ _ e2
theorem upto_len (lo : Int) : ∀ n, (upto lo n).length = n
  | 0 => rfl
  | n + 1 => by simp [upto, upto_len]
theorem upto_get (lo : Int) : ∀ (n i : Nat), i < n → (upto lo n)[i]? = some (lo + i)
  | 0, i, h => absurd h (Nat.not_lt_zero i)
  | n + 1, 0, _ => by simp [upto]
  | n + 1, i + 1, h => by
    rw [upto, List.getElem?_cons_succ, upto_get (lo + 1) n i (by omega)]
    congr 1
    omega
theorem downto_len (lo : Int) : ∀ n, (downto lo n).length = n
  | 0 => rfl
  | n + 1 => by simp [downto, downto_len]
theorem downto_get (lo : Int) : ∀ (n i : Nat), i < n → (downto lo n)[i]? = some (lo + (i : Int) * (-1))
  | 0, i, h => absurd h (Nat.not_lt_zero i)
  | n + 1, 0, _ => by simp [downto]
  | n + 1, i + 1, h => by
    rw [downto, List.getElem?_cons_succ, downto_get (lo - 1) n i (by omega)]
    congr 1
    omega
theorem pi_or {X : Cx} {tg e : Expr} {w w' : TI} (h : PI X tg e w) (h' : PI X tg e w') : PI X tg e (fun σ H R => w σ H R ∨ w' σ H R) := ⟨fun pins s σ H R I q => q.elim (h.run pins s σ H R I) (h'.run pins s σ H R I)⟩
theorem it_str {x : Sg} (ok : okS x = true) : ItOk K (Its (mkS x)) (x.map fun c => .str [c]) F := by
  refine ⟨fun i p F' H' h _ _ => ?_, fun F' H' _ _ => ?_⟩
  · rw [List.getElem?_map, Option.map_eq_some_iff] at h
    obtain ⟨c, h1, h2⟩ := h
    subst h2
    have hi := (List.getElem?_eq_some_iff.mp h1).1
    refine ⟨by show i < x.toArray.size; simpa using hi, fun v H'' y => ?_⟩
    obtain ⟨e1, d, e2, e3⟩ := y
    have e2' : x.toArray[i]? = some d := e2
    rw [List.getElem?_toArray, h1] at e2'
    cases e2'
    refine .inl ⟨e1, ?_⟩
    simp only [RP]
    refine ⟨e3, ?_⟩
    have := List.all_eq_true.mp ok c (List.mem_of_getElem? h1)
    simpa [okS] using this
  · show x.toArray.size ≤ _
    simp
theorem it_range (lo : Int) (n : Nat) : ItOk K (Itr lo n) ((upto lo n).map .int) F := by
  refine ⟨fun i p F' H' e s s' => ?_, fun F' H' s s' => by show n ≤ _; rw [List.length_map, upto_len]; exact Nat.le_refl _⟩
  have hi : i < n := by
    have := (List.getElem?_eq_some_iff.mp e).1
    rwa [List.length_map, upto_len] at this
  refine ⟨hi, fun x H'' y => .inl ⟨y.1, ?_⟩⟩
  rw [List.getElem?_map, upto_get lo n i hi] at e
  simp only [Option.map_some, Option.some.injEq] at e
  subst e
  simp only [RP]
  exact y.2
theorem it_down (lo : Int) (n : Nat) : ItOk K (Itc lo (-1) n) ((downto lo n).map .int) F := by
  refine ⟨fun i p F' H' e s s' => ?_, fun F' H' s s' => by show n ≤ _; rw [List.length_map, downto_len]; exact Nat.le_refl _⟩
  have hi : i < n := by
    have := (List.getElem?_eq_some_iff.mp e).1
    rwa [List.length_map, downto_len] at this
  refine ⟨hi, fun x H'' y => .inl ⟨y.1, ?_⟩⟩
  rw [List.getElem?_map, downto_get lo n i hi] at e
  simp only [Option.map_some, Option.some.injEq] at e
  subst e
  simp only [RP]
  exact y.2
end
/-! ### enumerate of a list, of a text -/
section
variable {K : PySem.W.Frag} {F F' H H' : Hp}
theorem numbered_get : ∀ (xs : List PV) (k i : Nat) (p : PV), (numbered k xs)[i]? = some p → ∃ x, xs[i]? = some x ∧ p = .tup [.int ((k + i : Nat) : Int), x]
  | [], _, _, _, h => by simp [numbered] at h
  | x :: xs, k, 0, p, h => by
    simp only [numbered, List.getElem?_cons_zero, Option.some.injEq] at h
    exact ⟨x, rfl, h.symm⟩
  | x :: xs, k, i + 1, p, h => by
    simp only [numbered, List.getElem?_cons_succ] at h
    obtain ⟨y, h1, h2⟩ := numbered_get xs (k + 1) i p h
    exact ⟨y, by simpa using h1, by rw [h2, show k + 1 + i = k + (i + 1) by omega]⟩
theorem numbered_len : ∀ (xs : List PV) (k : Nat), (numbered k xs).length = xs.length
  | [], _ => rfl
  | x :: xs, k => by simp [numbered, numbered_len xs (k + 1)]
theorem it_enum {a : Addr} {vs : List V} {xs : List PV} (h : F a = some (.lst vs)) (r : RPs K F xs vs) : ItOk K (Ite K a) (numbered 0 xs) F := by
  refine ⟨fun i p F' H' e s s' => ?_, fun F' H' s s' => ⟨vs, .inl (.inl (s' _ _ (s _ _ h))), by rw [numbered_len, r.length]; exact Nat.le_refl _⟩⟩
  have hq : SqL K H' a vs := .inl (.inl (s' _ _ (s _ _ h)))
  obtain ⟨x, ex, ep⟩ := numbered_get xs 0 i p e
  obtain ⟨v, e1, e2⟩ := r.get ex
  refine ⟨⟨vs, v, hq, e1⟩, fun y H'' yl => .inr ?_⟩
  obtain ⟨T, z, ey, hT, eH, hz⟩ := yl
  have := hz vs hq
  rw [e1] at this
  cases this
  refine ⟨T, _, hT, eH, ?_⟩
  subst ep ey
  have nF : F' T = none := by
    cases q : F' T with
    | none => rfl
    | some u => rw [s' _ _ q] at hT; cases hT
  simp only [RP, RPs]
  refine ⟨T, _, rfl, upd_same, _, _, rfl, by rw [Nat.zero_add], v, [], rfl, ?_, rfl⟩
  exact RP.mono (s.trans (sub_upd nF)) _ _ e2
/-- the signs of a text, each in a new pair -/
def Itn (x : Str) : It :=
  ⟨fun i _ => i < x.cps.size, fun i H v H' => ∃ T c, v = .ref T ∧ H T = none ∧ x.cps[i]? = some c ∧ H' = upd H T (.tup [.int (i : Nat), .str ⟨#[c]⟩]), fun i _ => x.cps.size ≤ i⟩
theorem turn_enumS {P : Program} {w : World} {K : PySem.W.Frag} {elts : List Expr} {kk : Nat} {tpos : Pos} (e it : Addr) (x : Str) (t : Tok) (ty : String) (hty : ty = "str_ascii_iterator" ∨ ty = "str_iterator") :
    Turn P w K (.Tuple elts kk tpos) (Itn x) [e, it] e (fun i h => (∃ old, IsEnum h e it ((i : Nat) : Int) old) ∧ h.IsStrIter it ty x t i ∧ e ≠ it) where
  mem := by simp
  obj := fun i h st b hb => by
    obtain ⟨⟨old, he⟩, ⟨o, ho, hc, hd⟩, _⟩ := st
    have e' : b = e ∨ b = it := by simpa using hb
    rcases e' with z | z
    · rw [z]; exact ⟨_, he, fun v q => nomatch q⟩
    · rw [z]; exact ⟨o, ho, fun v q => by rw [hd] at q; cases q⟩
  keep := fun i h h' st k => let ⟨⟨old, he⟩, ⟨o, ho, r⟩, hne⟩ := st; ⟨⟨old, k e (by simp) _ he⟩, ⟨o, k it (by simp) o ho, r⟩, hne⟩
  item := by
    intro X hP hw hK hc i pins s σ H E I hf st hg
    subst hP hw hK
    obtain ⟨⟨old, he⟩, hit, hne⟩ := st
    have D : Draws X.prog X.w X.A.in1 it [it] x.cps.size (fun i v => ∃ c u, x.cps[i]? = some c ∧ v = .str ⟨#[c]⟩ u) (fun i h => h.IsStrIter it ty x t i) := by
      rcases hty with q | q
      · rw [q]; exact Draws.strAscii (A := X.A.in1) (I.ok.hd hc) it x t
      · rw [q]; exact Draws.strWide (A := X.A.in1) (I.ok.hd hc) it x t
    have hel : e < s.heap.objs.size := Heap.lt_size he
    have hil : it < s.heap.objs.size := by obtain ⟨_, q, _⟩ := hit; exact Heap.lt_size q
    refine wpAny_pyNext_enum_itemD D he hit hg hne (by simpa using hne) fun y h' tk hy ho hit' hT hsz hk => ?_
    obtain ⟨c, u, hcx, rfl⟩ := hy
    refine ⟨_, rfl, wpAny_letOwnedTupleGo_enum (s := { s with heap := h', toks := tk + 1 }) ho fun h'' he' sb => ?_⟩
    have hT2 : h''.get? s.heap.objs.size = some { cls := .type "tuple", data := .seq #[.int i tk, .str ⟨#[c]⟩ u] } := (sb.2 _ (Nat.ne_of_gt hel)).trans hT
    have new : ObjOk X.prog X.w (upd H s.heap.objs.size (.tup [.int (i : Nat), .str ⟨#[c]⟩])) h'' s.heap.objs.size (.tup [.int (i : Nat), .str ⟨#[c]⟩]) :=
      ⟨by show 2 ≤ sizeLine; decide, [.int i tk, .str ⟨#[c]⟩ u], .cons ⟨_, rfl⟩ (.cons ⟨_, rfl⟩ .nil), ⟨_, hT2, rfl, _, rfl⟩⟩
    have I1 : Inv X pins σ (upd H s.heap.objs.size (.tup [.int (i : Nat), .str ⟨#[c]⟩])) { s with heap := h'', toks := tk + 1 } :=
      I.turnedNew (ch := [e, it]) (fun b ob hb q => (sb.2 b (fun z => hb (by simp [z]))).trans (hk b ob (fun z => hb (by simp [z])) (fun z => hb (by simp [z])) q)) hf (Nat.le_refl _) new
    refine ⟨.ref s.heap.objs.size, _, I1, rfl, ⟨_, c, rfl, I.hok.fresh (Nat.le_refl _), hcx, rfl⟩, ⟨⟨.str ⟨#[c]⟩ u, ?_⟩, ?_, hne⟩, fun b hb => ?_⟩
    · have e1 : ((i + 1 : Nat) : Int) = (i : Int) + 1 := by omega
      rw [e1]; exact he'
    · obtain ⟨o, ho', r⟩ := hit'
      exact ⟨o, (sb.2 it (Ne.symm hne)).trans ho', r⟩
    · have hb' : b < s.heap.objs.size := by
        have e' : b = e ∨ b = it := by simpa using hb
        rcases e' with z | z
        · rw [z]; exact hel
        · rw [z]; exact hil
      rw [upd_ne (Nat.ne_of_lt hb')]
      exact (hf b hb).1
  done := by
    intro X hP hw hK hc i pins s σ H E I hf st hg
    subst hP hw hK
    obtain ⟨⟨old, he⟩, hit, hne⟩ := st
    have D : Draws X.prog X.w X.A.in1 it [it] i (fun _ _ => True) (fun j h => j = i ∧ h.IsStrIter it ty x t i) := by
      have hgi : x.cps[i]? = none := Array.getElem?_eq_none hg
      refine ⟨fun _ _ st => let ⟨_, o, ho, _⟩ := st; ⟨o, ho⟩, fun _ _ _ st hk => let ⟨ej, o, ho, r⟩ := st; ⟨ej, o, hk it (by simp) o ho, r⟩, fun j s Q E hi st hQ => ?_, fun s Q E st hE => ?_⟩
      · have := st.1
        omega
      · rcases hty with q | q
        · rw [q] at st; exact wpAny_nextOf_ascii_end (A := X.A.in1) (I.ok.hd hc) st.2 hgi hE
        · rw [q] at st; exact wpAny_nextOf_wide_end (A := X.A.in1) (I.ok.hd hc) st.2 hgi hE
    obtain ⟨f0, f1, f2, f3, f4, f5⟩ := hf it (by simp)
    exact wpAny_pyNext_enum_endD D he ⟨rfl, hit⟩ fun h' eb => ⟨rfl, I.turned (t' := s.toks) (fun b o hb q => eb b o hb q) f0 f1 f3 f4 f5⟩
  self := fun A i s Q E st h => let ⟨⟨_, he⟩, _⟩ := st; wpAny_pyIter_enum he h
def iEnumS (ta : TA) : TI := fun σ H R => ta σ H fun vs H1 => ∃ x, vs = [.str x] ∧ R (Itn x) H1
theorem pi_enumS {X : Cx} {e : Expr} {ta : TA} {p pos tpos : Pos} {elts : List Expr} {kk : Nat} (hg : Gl X "enumerate") (hm : X.mg "enumerate" = none) (ha : PA X [e] ta) (hs : starEach [e] X.env = [(false, eval e X.env)] := by rfl) :
    PI X (.Tuple elts kk tpos) (.Call (.Name "enumerate" p) [e] [] pos) (iEnumS ta) := by
  refine ⟨fun pins s σ H R I h => ?_⟩
  refine Call_ (ld_blt I hg hm boot_enumerate (PyProof.Rows.callWith_type1 (thn (ha.run pos pins s σ H _ I h) fun us s1 ⟨vs, H1, I1, r1, q1⟩ => ?_) hs rfl))
  obtain ⟨x, ex, q⟩ := q1
  subst ex
  cases r1 with
  | cons r rr =>
    cases rr
    obtain ⟨t, rfl⟩ := r
    refine call_enumerate_str fun h' he hit hsz hk => wpAny_pyIter_enum he ?_
    have I2 : Inv X pins σ H1 { s1 with heap := h' } := I1.kept (t' := s1.toks) hk
    have ht : strIterType x = "str_ascii_iterator" ∨ strIterType x = "str_iterator" := by unfold strIterType; split <;> simp
    refine ⟨s1.heap.objs.size + 1, [s1.heap.objs.size + 1, s1.heap.objs.size], _, _, H1, rfl, I2, turn_enumS (s1.heap.objs.size + 1) s1.heap.objs.size x t (strIterType x) ht, ⟨⟨.none, he⟩, hit, Nat.succ_ne_self _⟩, fun b hb => ?_, q⟩
    have e' : b = s1.heap.objs.size + 1 ∨ b = s1.heap.objs.size := by simpa using hb
    have hle : s1.heap.objs.size ≤ b := by
      rcases e' with z | z
      · rw [z]; exact Nat.le_add_right _ _
      · rw [z]; exact Nat.le_refl _
    exact I1.fpOk hle (I1.hok.fresh hle)
theorem it_enumS {x : Sg} (ok : okS x = true) : ItOk K (Itn (mkS x)) (numbered 0 (x.map fun c => .str [c])) F := by
  refine ⟨fun i p F' H' e s s' => ?_, fun F' H' _ _ => ?_⟩
  · obtain ⟨y, ey, ep⟩ := numbered_get _ 0 i p e
    rw [List.getElem?_map, Option.map_eq_some_iff] at ey
    obtain ⟨c, h1, h2⟩ := ey
    subst h2
    have hi := (List.getElem?_eq_some_iff.mp h1).1
    refine ⟨by show i < x.toArray.size; simpa using hi, fun v H'' yl => .inr ?_⟩
    obtain ⟨T, d, ev, hT, e2, eH⟩ := yl
    have e2' : x.toArray[i]? = some d := e2
    rw [List.getElem?_toArray, h1] at e2'
    cases e2'
    refine ⟨T, _, hT, eH, ?_⟩
    subst ep ev
    simp only [RP, RPs]
    refine ⟨T, _, rfl, upd_same, _, _, rfl, by rw [Nat.zero_add], _, [], rfl, ⟨rfl, ?_⟩, rfl⟩
    have := List.all_eq_true.mp ok c (List.mem_of_getElem? h1)
    simpa [okS] using this
  · show x.toArray.size ≤ _
    rw [numbered_len]
    simp
end
/-- the reading of an iterable -/
def RdI (M : Nm) (K : PySem.W.Frag) (W : WX) (S : Sem) (wi : TI) (ik : IK) (src : List ME) : Prop := ∀ σ H R φ F ρ st, HR' M K F ρ H st → SL M K F ρ σ φ →
  (∀ vs st1 ps xs, evEs S src φ st = some (.ok vs st1) → unpv vs = some ps → items ik ps = some xs → (∀ F1 ρ1 H1 J, G F ρ H F1 ρ1 H1 → HR' M K F1 ρ1 H1 st1 → ItOk K J xs F1 → R J H1) → wi σ H R) ∧
  (∀ e st1, evEs S src φ st = some (.ex e st1) → (∀ F' ρ' H' cls d, G F ρ H F' ρ' H' → HR' M K F' ρ' H' st1 → RX M K F' H' e cls d → W cls d σ H') → wi σ H R)
theorem rangeOk_ok {i : Int} (h : rangeOk i = true) : -(2 ^ 62) ≤ i ∧ i < 2 ^ 62 := by
  simpa [rangeOk] using h
section
variable {X : Cx} {g : SC} {M : Nm} {S : Sem} {W : WX} {k : Nat}
theorem one_ok {m : ME} {φ : Slots} {st st1 : Store} {vs : List LV} (e : evEs S [m] φ st = some (.ok vs st1)) : ∃ v, vs = [v] ∧ evE S m φ st = some (.ok v st1) := by
  simp only [evEs] at e
  cases q : evE S m φ st with
  | none => rw [q] at e; cases e
  | some r =>
    rw [q] at e
    cases r with
    | ok v st2 =>
      simp only [R.bs, Rs.bs, Option.some.injEq, ERs.ok.injEq] at e
      obtain ⟨e1, e2⟩ := e
      subst e1 e2
      exact ⟨v, rfl, rfl⟩
    | ex x st2 => simp [R.bs] at e
theorem one_ex {m : ME} {φ : Slots} {st st1 : Store} {x : Ex} (e : evEs S [m] φ st = some (.ex x st1)) : evE S m φ st = some (.ex x st1) := by
  simp only [evEs] at e
  cases q : evE S m φ st with
  | none => rw [q] at e; cases e
  | some r =>
    rw [q] at e
    cases r with
    | ok v st2 => simp [R.bs, Rs.bs] at e
    | ex y st2 =>
      simp only [R.bs, Option.some.injEq, ERs.ex.injEq] at e
      obtain ⟨e1, e2⟩ := e
      subst e1 e2
      rfl
theorem evEs_len : ∀ {ms : List ME} {φ : Slots} {st st1 : Store} {vs : List LV}, evEs S ms φ st = some (.ok vs st1) → vs.length = ms.length
  | [], φ, st, st1, vs, e => by
    simp only [evEs, Option.some.injEq, ERs.ok.injEq] at e
    rw [← e.1]; rfl
  | m :: ms, φ, st, st1, vs, e => by
    simp only [evEs] at e
    cases q : evE S m φ st with
    | none => rw [q] at e; cases e
    | some r =>
      rw [q] at e
      cases r with
      | ex x st2 => simp [R.bs] at e
      | ok v st2 =>
        simp only [R.bs] at e
        cases q2 : evEs S ms φ st2 with
        | none => rw [q2] at e; cases e
        | some r2 =>
          rw [q2] at e
          cases r2 with
          | ex x st3 => simp [Rs.bs] at e
          | ok vs2 st3 =>
            simp only [Rs.bs, Option.some.injEq, ERs.ok.injEq] at e
            rw [← e.1]
            simp [evEs_len q2]
theorem srcs_of {F1 : Hp} {ρ1 : List Addr} {K : PySem.W.Frag} {ms : List ME} {es : List Expr} {φ : Slots} {st st1 : Store} {vs : List LV} {ps : List PV} {ws : List V} (hl : ms.length = es.length) (e1 : evEs S ms φ st = some (.ok vs st1)) (e2 : unpv vs = some ps) (r : RLs K F1 ρ1 vs ws) :
    ps.length = es.length ∧ RPs K F1 ps ws := by
  have e3 := unpv_eq e2
  have l := evEs_len e1
  rw [e3] at r l
  rw [List.length_map] at l
  exact ⟨l.trans hl, RLs_pv.mp r⟩
theorem iter_ok (C : Cok X g M S W k) {ik : IK} {src : List ME} {it : Expr} {xs : List Expr} {tg : Expr} (h : srcOf g ik tg it = some xs) (hs : SEs X M S W src xs) :
    ∃ wi, PI X tg it wi ∧ RdI M X.K W S wi ik src ∧ (∀ env x, foldedSetIterable it env x = pure x) := by
  cases ik with
  | enum =>
    simp only [srcOf] at h
    split at h
    · rename_i f fp y pos
      split at h
      · rename_i hc
        simp only [Option.some.injEq] at h
        subst h
        simp only [Bool.and_eq_true, decide_eq_true_eq, Bool.not_eq_true'] at hc
        obtain ⟨⟨⟨hf, hg⟩, ht⟩, hst⟩ := hc
        obtain ⟨g1, g2⟩ := C.gl hg
        subst hf
        obtain ⟨t, ht1, hr⟩ := hs.pa
        have sa : starEach [y] X.env = [(false, eval y X.env)] := by rw [star_each hst]; rfl
        cases tg <;> simp only [isTupE, Bool.false_eq_true] at ht
        refine ⟨_, pi_or (pi_enum g1 C.en ht1 sa) (pi_enumS g1 C.en ht1 sa), ?_, fun env x => rfl⟩
        intro σ H Rr φ F ρ st hh hsl
        refine ⟨fun vs st1 ps ys e1 e2 e3 q => ?_, fun x st1 e1 q => .inl (hr σ H _ φ F ρ st _ hh hsl e1 q)⟩
        have hlen := hs.len
        match ps, e2, e3 with
        | [p], e2, e3 =>
          cases p <;> simp only [items, Option.some.injEq, reduceCtorEq] at e3
          case lst xs =>
            subst e3
            refine .inl (hr σ H _ φ F ρ st _ hh hsl e1 fun F1 ρ1 H1 ws g1 h1 r1 => ?_)
            obtain ⟨lv, r2⟩ := srcs_of hlen e1 e2 r1
            simp only [RPs, RP] at r2
            obtain ⟨v, r', w1, ⟨a, zs, e5, e6, e7⟩, w3⟩ := r2
            subst w1 w3 e5
            exact ⟨a, zs, rfl, .inl (.inl (h1.sub _ _ e6)), q F1 ρ1 H1 _ g1 h1 (it_enum e6 e7)⟩
          case str x =>
            split at e3
            · simp only [Option.some.injEq] at e3
              subst e3
              refine .inr (hr σ H _ φ F ρ st _ hh hsl e1 fun F1 ρ1 H1 ws g1 h1 r1 => ?_)
              obtain ⟨lv, r2⟩ := srcs_of hlen e1 e2 r1
              simp only [RPs, RP] at r2
              obtain ⟨v, r', w1, w2, w3⟩ := r2
              subst w1 w3
              exact ⟨mkS x, by rw [w2.1], q F1 ρ1 H1 _ g1 h1 (it_enumS w2.2)⟩
            · cases e3
        | [], _, e3 => simp [items] at e3
        | _ :: _ :: _, _, e3 => simp [items] at e3
      · cases h
    · cases h
  | val =>
    simp only [srcOf] at h
    split at h
    · cases h
    · rename_i hset
      simp only [Option.some.injEq] at h
      subst h
      have hl := hs.len
      cases src with
      | nil => simp at hl
      | cons m ms =>
        cases ms with
        | cons _ _ => simp at hl
        | nil =>
          obtain ⟨e, r, h1, h2, ⟨t, h3, h4⟩, h5⟩ := hs
          simp only [List.cons.injEq] at h1
          obtain ⟨h1, _⟩ := h1
          subst h1
          refine ⟨_, pi_or (pi_seq h3) (pi_str h3), ?_, fun env x => noFold (by simpa using hset) env x⟩
          intro σ H Rr φ F ρ st hh hsl
          constructor
          · intro vs st1 ps ys e1 e2 e3 q
            obtain ⟨v, ev, e4⟩ := one_ok e1
            subst ev
            cases v with
            | ref n => simp [unpv] at e2
            | tup _ => simp [unpv] at e2
            | exn _ => simp [unpv] at e2
            | pv p =>
              simp only [unpv, Option.map_some, Option.some.injEq] at e2
              subst e2
              cases p <;> simp only [items, Option.some.injEq, reduceCtorEq] at e3
              case str x =>
                split at e3
                · simp only [Option.some.injEq] at e3
                  subst e3
                  refine .inr (h4 σ H _ φ F ρ st _ hh hsl e4 fun F1 ρ1 H1 w g1 h1 r1 => ?_)
                  simp only [RL, RP] at r1
                  exact ⟨mkS x, r1.1, q F1 ρ1 H1 _ g1 h1 (it_str r1.2)⟩
                · cases e3
              case tup xs =>
                subst e3
                refine .inl (h4 σ H _ φ F ρ st _ hh hsl e4 fun F1 ρ1 H1 w g1 h1 r1 => ?_)
                simp only [RL, RP] at r1
                obtain ⟨a, ws, e5, e6, e7⟩ := r1
                exact ⟨a, e5, .inr ⟨⟨ws, .inl (.inl (h1.sub _ _ e6))⟩, q F1 ρ1 H1 _ g1 h1 (it_tup e6 e7)⟩⟩
              case lst xs =>
                subst e3
                refine .inl (h4 σ H _ φ F ρ st _ hh hsl e4 fun F1 ρ1 H1 w g1 h1 r1 => ?_)
                simp only [RL, RP] at r1
                obtain ⟨a, ws, e5, e6, e7⟩ := r1
                exact ⟨a, e5, .inl ⟨⟨ws, .inl (.inl (h1.sub _ _ e6))⟩, q F1 ρ1 H1 _ g1 h1 (it_list e6 e7)⟩⟩
          · intro x st1 e1 q
            exact .inl (h4 σ H _ φ F ρ st _ hh hsl (one_ex e1) q)
  | range =>
    simp only [srcOf] at h
    split at h
    · rename_i f fp ys pos
      split at h
      · rename_i hc
        simp only [Option.some.injEq] at h
        subst h
        simp only [Bool.and_eq_true, decide_eq_true_eq] at hc
        obtain ⟨⟨⟨hf, hg⟩, hl1⟩, hl3⟩ := hc
        obtain ⟨g1, g2⟩ := C.gl hg
        subst hf
        obtain ⟨t, ht, hr⟩ := hs.pa
        have hst := hs.star
        have fold : ∀ env x, foldedSetIterable (.Call (.Name rangeN fp) ys [] pos) env x = pure x := fun env x => rfl
        have hlen := hs.len
        match ys, hl1, hl3, ht, hst, hlen with
        | [a], _, _, ht, hst, hlen =>
          have sa : starEach [a] X.env = [(false, eval a X.env)] := by
            simp only [List.all_cons, Bool.and_eq_true, Bool.not_eq_true'] at hst
            rw [star_each hst.1]; rfl
          refine ⟨_, pi_range1 g1 C.br ht sa, ?_, fold⟩
          intro σ H Rr φ F ρ st hh hsl
          refine ⟨fun vs st1 ps ys e1 e2 e3 q => hr σ H _ φ F ρ st _ hh hsl e1 fun F1 ρ1 H1 ws g1 h1 r1 => ?_, fun x st1 e1 q => hr σ H _ φ F ρ st _ hh hsl e1 q⟩
          obtain ⟨lv, r2⟩ := srcs_of hlen e1 e2 r1
          match ps, lv, e3, r2 with
          | [p], _, e3, r2 =>
            cases p <;> simp only [items, reduceCtorEq] at e3
            rename_i j
            split at e3
            · rename_i hj
              simp only [Option.some.injEq] at e3
              subst e3
              simp only [RPs, RP] at r2
              obtain ⟨v, r', w1, w2, w3⟩ := r2
              subst w1 w2 w3
              obtain ⟨b1, b2⟩ := rangeOk_ok hj
              exact ⟨_, rfl, b1, b2, q F1 ρ1 H1 _ g1 h1 (it_range 0 _)⟩
            · cases e3
        | [a, b], _, _, ht, hst, hlen =>
          simp only [List.all_cons, Bool.and_eq_true, Bool.not_eq_true'] at hst
          have sb : starEach [b] X.env = [(false, eval b X.env)] := by rw [star_each hst.2.1]; rfl
          have sa : starEach [a, b] X.env = [(false, eval a X.env), (false, eval b X.env)] := by rw [star_each hst.1, sb]
          refine ⟨_, pi_range2 g1 C.br ht sa sb, ?_, fold⟩
          intro σ H Rr φ F ρ st hh hsl
          refine ⟨fun vs st1 ps ys e1 e2 e3 q => hr σ H _ φ F ρ st _ hh hsl e1 fun F1 ρ1 H1 ws g1 h1 r1 => ?_, fun x st1 e1 q => hr σ H _ φ F ρ st _ hh hsl e1 q⟩
          obtain ⟨lv, r2⟩ := srcs_of hlen e1 e2 r1
          match ps, lv, e3, r2 with
          | [p, p'], _, e3, r2 =>
            cases p <;> cases p' <;> simp only [items, reduceCtorEq] at e3
            split at e3
            · rename_i hj
              simp only [Option.some.injEq] at e3
              subst e3
              simp only [Bool.and_eq_true] at hj
              simp only [RPs, RP] at r2
              obtain ⟨v, r', w1, w2, v', r'', w3, w4, w5⟩ := r2
              subst w1 w2 w3 w4 w5
              obtain ⟨b1, b2⟩ := rangeOk_ok hj.1
              obtain ⟨b3, b4⟩ := rangeOk_ok hj.2
              exact ⟨_, _, rfl, ⟨b1, b2, b3, b4⟩, q F1 ρ1 H1 _ g1 h1 (it_range _ _)⟩
            · cases e3
        | [a, b, c], _, _, ht, hst, hlen =>
          simp only [List.all_cons, Bool.and_eq_true, Bool.not_eq_true'] at hst
          refine ⟨_, pi_range3 g1 C.br ht (star_each hst.1) (star_plain (by simp [hst.2.1, hst.2.2.1])), ?_, fold⟩
          intro σ H Rr φ F ρ st hh hsl
          refine ⟨fun vs st1 ps ys e1 e2 e3 q => hr σ H _ φ F ρ st _ hh hsl e1 fun F1 ρ1 H1 ws g1 h1 r1 => ?_, fun x st1 e1 q => hr σ H _ φ F ρ st _ hh hsl e1 q⟩
          obtain ⟨lv, r2⟩ := srcs_of hlen e1 e2 r1
          match ps, lv, e3, r2 with
          | [p, p', p''], _, e3, r2 =>
            cases p <;> cases p' <;> cases p'' <;> simp only [items, reduceCtorEq] at e3
            split at e3
            · rename_i hj
              simp only [Option.some.injEq] at e3
              subst e3
              simp only [Bool.and_eq_true, decide_eq_true_eq] at hj
              simp only [RPs, RP] at r2
              obtain ⟨v, r', w1, w2, v', r'', w3, w4, v3, r3, w5, w6, w7⟩ := r2
              obtain ⟨⟨j1, j2⟩, j3⟩ := hj
              subst j3
              subst w1 w2 w3 w4 w5 w6 w7
              obtain ⟨b1, b2⟩ := rangeOk_ok j1
              obtain ⟨b3, b4⟩ := rangeOk_ok j2
              exact ⟨_, _, _, _, rfl, RgC.neg b1 b2 b3 b4, q F1 ρ1 H1 _ g1 h1 (it_down _ _)⟩
            · cases e3
      · cases h
    · cases h
end
end Z
end

section
/-! ZM: comprehensions. -/
namespace Z
open PySem PySem.Spec PyProof.Rows L2
section
variable {X : Cx} {g : SC} {M : Nm} {S : Sem} {W : WX} {k : Nat}
abbrev W0 : WX := fun _ _ _ _ => False
theorem Cok.blk (C : Cok X g M S W k) (hn : g.hot = false) (scope : Scope) (s : Shared) (H : Hp) (A : Addr) (cl : List (Str × Addr)) (fp : List Addr) :
    Cok (X.blk s H scope (compEnvC scope cl A X.env) fp) (g.blk scope) M S W0 k where
  N := C.N
  sc := by
    show relabel scope X.env = relS scope g.sc
    rw [← C.sc]; rfl
  fn := fun x h => by
    have h' : decide (scope.names.lookup x = some .cell) = true := h
    show (scope.names.lookup x == some .cell) = true
    rw [of_decide_eq_true h']; rfl
  nd := C.nd
  calm := C.calm
  hr := C.hr
  hrH := fun h => by have h2 : g.hot = true := h; rw [hn] at h2; cases h2
  hotc := fun h => by have h2 : g.hot = true := h; rw [hn] at h2; cases h2
  callsH := C.callsH
  un := C.un
  gd := C.gd
  gdx := C.gdx
  tab := C.tab
  dtab := C.dtab
  fr := C.fr
  glb := C.glb
  calls := C.calls
  errs := fun c ei h => ⟨(C.errs c ei h).adr, (C.errs c ei h).xf, (C.errs c ei h).ec, (C.errs c ei h).no, (C.errs c ei h).sub, (C.errs c ei h).xin, (C.errs c ei h).make⟩
  cls := fun c ci h => ⟨(C.cls c ci h).adr, (C.cls c ci h).cl, (C.cls c ci h).no, (C.cls c ci h).meth, (C.cls c ci h).make⟩
  nf := C.nf
  xerr := C.xerr
  finj := C.finj
  fname := C.fname
  cur := by
    have h1 := C.cur
    have h2 : (g.blk scope).exn = none := C.cold hn
    rw [C.cold hn] at h1
    rw [h2]
    exact h1
  cold := fun _ => C.cold hn
  stk := fun h => by cases h
  frm := fun h => by cases h
  takes := takesN
  pass := PassesOwn.never
section
variable {F F' F1 F2 H H' H1 H2 : Hp} {ρ ρ' ρ1 ρ2 : List Addr} {st : Store} {K : PySem.W.Frag} {D : Addr} {o o' : HO}
/-- the object at D, younger than the beginning, changes -/
theorem G.turnD (g : G F1 ρ1 H1 F2 ρ2 H2) (nD : H1 D = none) (h : HR' M K F2 ρ2 H2 st) (nF : F2 D = none) (nρ : D ∉ ρ2) : G F1 ρ1 H1 F2 ρ2 (upd H2 D o) ∧ HR' M K F2 ρ2 (upd H2 D o) st := by
  refine ⟨⟨g.sub, g.pre, fun b u e hb => by rw [upd_ne (ne_of_none e nD)]; exact g.keep b u e hb, g.new, g.newρ, fun b hb => ?_⟩, ⟨fun b u e => by rw [upd_ne (ne_of_none e nF)]; exact h.sub b u e, h.len, h.nd, fun n a c e1 e2 => ?_⟩⟩
  · by_cases hbD : b = D
    · rw [hbD, upd_same]; simp
    · rw [upd_ne hbD]; exact g.hold b hb
  · have hc := h.cell n a c e1 e2
    have hne : a ≠ D := fun z => nρ (by rw [← z]; exact List.mem_of_getElem? e1)
    exact hc.mono (Sub.refl _) (Pre.refl _) (fun u e => by rw [upd_ne hne]; exact e) fun e => e
/-- it becomes a cell -/
theorem G.adoptC (g : G F1 ρ1 H1 F2 ρ2 H2) (nD : H1 D = none) (h : HR' M K F2 ρ2 H2 st) (nρ : D ∉ ρ2) {c : Cell} (hc : CR K F2 (ρ2 ++ [D]) M.cad M.fnm H2 D c) : G F1 ρ1 H1 F2 (ρ2 ++ [D]) H2 ∧ HR' M K F2 (ρ2 ++ [D]) H2 (st ++ [c]) := by
  refine ⟨⟨g.sub, g.pre.trans (Pre.snoc _ _), g.keep, g.new, fun b hb => ?_, g.hold⟩, ⟨h.sub, by rw [List.length_append, List.length_append, h.len]; rfl, ?_, fun n a c' e1 e2 => ?_⟩⟩
  · rcases List.mem_append.mp hb with z | z
    · exact g.newρ b z
    · have e : b = D := by simpa using z
      exact .inr (by rw [e]; exact nD)
  · exact List.nodup_append.mpr ⟨h.nd, by simp, fun x hx y hy e => nρ (by
      have : y = D := by simpa using hy
      rw [← this, ← e]; exact hx)⟩
  · by_cases hn : n < ρ2.length
    · rw [List.getElem?_append_left hn] at e1
      rw [List.getElem?_append_left (by rw [← h.len]; exact hn)] at e2
      exact (h.cell n a c' e1 e2).mono (Sub.refl _) (Pre.snoc _ _) (fun u e => e) fun e => e
    · have hn' : n = ρ2.length := by
        have := (List.getElem?_eq_some_iff.mp e1).1
        rw [List.length_append] at this
        simp only [List.length_cons, List.length_nil] at this
        omega
      subst hn'
      rw [List.getElem?_append_right (Nat.le_refl _)] at e1
      rw [h.len, List.getElem?_append_right (Nat.le_refl _)] at e2
      simp only [Nat.sub_self, List.getElem?_cons_zero, Option.some.injEq] at e1 e2
      subst e1 e2
      exact hc
/-- nothing will change it any more -/
theorem G.adoptF (g : G F1 ρ1 H1 F2 ρ2 H2) (nD : H1 D = none) (h : HR' M K F2 ρ2 H2 st) (hD : H2 D = some o) (nF : F2 D = none) (nρ : D ∉ ρ2) : G F1 ρ1 H1 (upd F2 D o) ρ2 H2 ∧ HR' M K (upd F2 D o) ρ2 H2 st := by
  refine ⟨⟨g.sub.trans (sub_upd nF), g.pre, g.keep, fun b u e => ?_, g.newρ, g.hold⟩, ⟨fun b u e => ?_, h.len, h.nd, fun n a c e1 e2 => ?_⟩⟩
  · by_cases hb : b = D
    · exact .inr (.inl (by rw [hb]; exact nD))
    · rw [upd_ne hb] at e; exact g.new b u e
  · by_cases hb : b = D
    · subst hb; rw [upd_same] at e; rw [← e]; exact hD
    · rw [upd_ne hb] at e; exact h.sub b u e
  · have hc := h.cell n a c e1 e2
    have hne : a ≠ D := fun z => nρ (by rw [← z]; exact List.mem_of_getElem? e1)
    exact hc.mono (sub_upd nF) (Pre.refl _) (fun u e => e) fun e => by rw [upd_ne hne]; exact e
/-- D through what may have come to pass -/
theorem G.atD (g : G F1 ρ1 H1 F2 ρ2 H2) (hD : H1 D = some o) (nF : F1 D = none) (nρ : D ∉ ρ1) : H2 D = some o ∧ F2 D = none ∧ D ∉ ρ2 := by
  refine ⟨g.keep D o hD nρ, ?_, fun hm => (g.newρ D hm).elim nρ fun z => by rw [hD] at z; cases z⟩
  cases q : F2 D with
  | none => rfl
  | some u =>
    rcases g.new D u q with z | z | z
    · rw [nF] at z; cases z
    · rw [hD] at z; cases z
    · exact absurd z nρ
end
theorem RLs.snoc {K : PySem.W.Frag} {F : Hp} {ρ : List Addr} {xs : List LV} {vs : List V} {y : LV} {v : V} (h : RLs K F ρ xs vs) (r : RL K F ρ y v) : RLs K F ρ (xs ++ [y]) (vs ++ [v]) :=
  h.append (by simp only [RLs]; exact ⟨v, [], rfl, r, rfl⟩)
/-- what a turn's test and element read -/
def RdTurn (M : Nm) (K : PySem.W.Frag) (tt : TT) (te : TE) (body : Slots → Store → Option ERs) : Prop := ∀ φ σ F ρ H st st' ys (U : V → Hp → Prop) (U0 : Hp → Prop), HR' M K F ρ H st → SL M K F ρ σ φ → body φ st = some (.ok ys st') →
  (∀ F' ρ' H', G F ρ H F' ρ' H' → HR' M K F' ρ' H' st' → (ys = [] → U0 H') ∧ ∀ y v, ys = [y] → RL K F' ρ' y v → U v H') → tt σ H fun b H3 => if b = true then te σ H3 U else U0 H3
/-- the loop of a comprehension with one clause -/
theorem lc_loop {J : It} {tg : TG} {tt : TT} {te : TE} {mg : MG} {own : List Nat} {xs : List PV} {K : PySem.W.Frag} {F1 H1 : Hp} {ρ1 : List Addr} {st1 stE : Store} {all : List LV} {σ : L2.St} {φ : Slots} {D : Addr} {Q : Hp → Prop} {step : PV → Store → Option ERs} {body : Slots → Store → Option ERs}
    (hstep : ∀ x st, step x st = match asgG mg (.pv x) (wipeL φ own) with
      | some φ1 => body φ1 st
      | none => none)
    (hg : RdG M K tg mg) (hsub : ∀ i ∈ slotsG mg, i ∈ own) (hb : RdTurn M K tt te body)
    (h1 : HR' M K F1 ρ1 H1 st1) (hs : SL M K F1 ρ1 σ φ) (ito : ItOk K J xs F1) (nD : H1 D = none) (ql : lcLoop step xs st1 = some (all, stE)) (hall : all.length ≤ line)
    (hq : ∀ F2 ρ2 H2 accV, G F1 ρ1 H1 F2 ρ2 H2 → HR' M K F2 ρ2 H2 stE → H2 D = some (.lst accV) → F2 D = none → D ∉ ρ2 → RLs K F2 ρ2 all accV → Q H2) :
    ∃ W_1 : Nat → Nat → Hp → Prop, (∃ m, W_1 0 m (upd H1 D (.lst []))) ∧ ∀ i m H, W_1 i m H →
      (J.stop i H ∧ Q H) ∨ (J.go i H ∧ ∃ Nx : Hp → Prop, (∀ H', Nx H' → ∃ m', m' < m ∧ W_1 (i + 1) m' H') ∧ ∀ x H', J.yld i H x H' → tg x (wipe σ own) H' fun σ2 H2 => wipe σ2 own = wipe σ own ∧ tt σ2 H2 fun b H3 =>
        if b = true then te σ2 H3 fun y H4 => ∃ acc, H4 D = some (.lst acc) ∧ acc.length < sizeLine ∧ Nx (upd H4 D (.lst (acc ++ [y]))) else Nx H3) := by
  obtain ⟨Inv, hInv⟩ : ∃ Inv : Nat → Hp → Prop, Inv = fun i H => i ≤ xs.length ∧ ∃ F2 ρ2 st2 acc accV zs, G F1 ρ1 H1 F2 ρ2 H ∧ HR' M K F2 ρ2 H st2 ∧ H D = some (.lst accV) ∧ F2 D = none ∧ D ∉ ρ2 ∧ RLs K F2 ρ2 acc accV ∧
      lcLoop step (xs.drop i) st2 = some (zs, stE) ∧ acc ++ zs = all := ⟨_, rfl⟩
  refine ⟨fun i m H => m = xs.length - i ∧ Inv i H, ⟨xs.length, by simp, ?_⟩, ?_⟩
  · obtain ⟨gL, hL⟩ := h1.laid nD (.lst [])
    rw [hInv]
    exact ⟨Nat.zero_le _, F1, ρ1, st1, [], [], all, gL, hL, upd_same, h1.fresh nD, h1.notin nD, by simp only [RLs], by simpa using ql, rfl⟩
  rintro i m H2 ⟨rfl, hI⟩
  rw [hInv] at hI
  obtain ⟨hi, F2, ρ2, st2, acc, accV, zs, g2, h2, hD, nF2, nρ2, ra, el, ea⟩ := hI
  by_cases hlt : i < xs.length
  · refine .inr ?_
    have hx : xs[i]? = some xs[i] := List.getElem?_eq_getElem hlt
    obtain ⟨hgo, hy⟩ := ito.at_ i xs[i] F2 H2 hx g2.sub h2.sub
    rw [List.drop_eq_getElem_cons hlt] at el
    unfold lcLoop at el
    cases qs : step xs[i] st2 with
    | none => simp [qs, noX] at el
    | some rr =>
      cases rr with
      | ex x stx => simp [qs, noX] at el
      | ok ys st3 =>
        simp only [qs, noX] at el
        cases q3 : lcLoop step (xs.drop (i + 1)) st3 with
        | none => simp [q3] at el
        | some p3 =>
          obtain ⟨zs', stE'⟩ := p3
          simp only [q3, Option.some.injEq, Prod.mk.injEq] at el
          obtain ⟨el1, el2⟩ := el
          subst el2
          refine ⟨hgo, Inv (i + 1), fun H' hN => ⟨xs.length - (i + 1), by omega, rfl, hN⟩, fun x H' hyl => ?_⟩
          have item : ∃ F3 , G F2 ρ2 H2 F3 ρ2 H' ∧ HR' M K F3 ρ2 H' st2 ∧ RP K F3 xs[i] x := by
            rcases hy x H' hyl with ⟨e1, e2⟩ | ⟨T, o, e0, e1, e2⟩
            · subst e1
              exact ⟨F2, G.refl _ _ _, h2, e2⟩
            · subst e1
              obtain ⟨g3, h3⟩ := h2.new e0 o
              exact ⟨_, g3, h3, e2⟩
          obtain ⟨F3, g3, h3, rx⟩ := item
          rw [hstep] at qs
          cases qa : asgG mg (.pv xs[i]) (wipeL φ own) with
          | none => simp [qa] at qs
          | some φ1 =>
            simp only [qa] at qs
            refine hg (.pv xs[i]) x (wipeL φ own) φ1 (wipe σ own) F3 ρ2 H' st2 _ h3 ((hs.g (g2.trans g3)).wipe own) (by simp only [RL]; exact rx) qa fun σ2 hs2 ho => ?_
            refine ⟨by rw [ho own hsub, wipe_wipe], ?_⟩
            refine hb φ1 σ2 F3 ρ2 H' st2 st3 ys (fun y H4 => ∃ acc, H4 D = some (.lst acc) ∧ acc.length < sizeLine ∧ Inv (i + 1) (upd H4 D (.lst (acc ++ [y])))) (Inv (i + 1)) h3 hs2 qs ?_
            intro F4 ρ4 H4 g4 h4
            have g34 := g3.trans g4
            obtain ⟨hD4, nF4, nρ4⟩ := g34.atD hD nF2 nρ2
            have gg : G F1 ρ1 H1 F4 ρ4 H4 := g2.trans g34
            have ra4 : RLs K F4 ρ4 acc accV := RLs.mono g34.sub g34.pre _ _ ra
            refine ⟨fun ey => ?_, fun y v ey ry => ?_⟩
            · subst ey
              rw [hInv]
              exact ⟨hlt, F4, ρ4, st3, acc, accV, zs', gg, h4, hD4, nF4, nρ4, ra4, q3, by rw [← ea, ← el1]; simp⟩
            · subst ey
              have hlen : accV.length < sizeLine := by
                rw [← ra4.length, line_eq]
                have := hall
                rw [← ea, ← el1] at this
                simp only [List.length_append, List.length_cons, List.length_nil] at this
                omega
              obtain ⟨gU, hU⟩ := gg.turnD (o := .lst (accV ++ [v])) nD h4 nF4 nρ4
              refine ⟨accV, hD4, hlen, ?_⟩
              rw [hInv]
              exact ⟨hlt, F4, ρ4, st3, acc ++ [y], accV ++ [v], zs', gU, hU, upd_same, nF4, nρ4, ra4.snoc ry, q3, by rw [← ea, ← el1]; simp⟩
  · have hi' : i = xs.length := by omega
    subst hi'
    refine .inl ⟨ito.stop F2 H2 g2.sub h2.sub, ?_⟩
    rw [List.drop_length] at el
    simp only [lcLoop, Option.some.injEq, Prod.mk.injEq] at el
    obtain ⟨el1, el2⟩ := el
    subst el1 el2
    rw [List.append_nil] at ea
    subst ea
    exact hq F2 ρ2 H2 accV g2 h2 hD nF2 nρ2 ra
theorem mkLst_ok {K : PySem.W.Frag} {live : Bool} {all : List LV} {F F2 H H2 : Hp} {ρ ρ2 : List Addr} {st : Store} {D : Addr} {accV : List V} {Q : VK} {r : ER} {σ : L2.St} (e : mkLst live all st = some r) (post : PostE M K W σ F ρ H Q r)
    (g : G F ρ H F2 ρ2 H2) (nD : H D = none) (h : HR' M K F2 ρ2 H2 st) (hD : H2 D = some (.lst accV)) (nF : F2 D = none) (nρ : D ∉ ρ2) (ra : RLs K F2 ρ2 all accV) : Q (.ref D) H2 := by
  unfold mkLst at e
  split at e
  · split at e
    · rename_i hl
      simp only [Option.some.injEq] at e
      subst e
      obtain ⟨g2, h2⟩ := g.adoptC nD h nρ (c := .lst true all) ⟨accV, hD, RLs.mono (Sub.refl _) (Pre.snoc _ _) _ _ ra, fun _ => nF, fun z => Bool.noConfusion z⟩
      refine post _ _ _ _ g2 h2 ?_
      simp only [RL]
      exact ⟨D, rfl, by rw [← h.len, List.getElem?_append_right (Nat.le_refl _)]; simp⟩
    · split at e
      · rename_i ps hu
        simp only [Option.some.injEq] at e
        subst e
        obtain ⟨g2, h2⟩ := g.adoptF nD h hD nF nρ
        refine post _ _ _ _ g2 h2 ?_
        simp only [RL, RP]
        rw [unpv_eq hu] at ra
        exact ⟨D, accV, rfl, upd_same, RPs.mono (sub_upd nF) _ _ (RLs_pv.mp ra)⟩
      · cases e
  · cases e
/-- the reading of a comprehension with one clause -/
theorem rd_lc {wi : TI} {tg : TG} {tt : TT} {te : TE} {mg : MG} {ik : IK} {src : List ME} {ifs : List MT} {elt : ME} {own : List Nat} {live : Bool}
    (hi : RdI M X.K W S wi ik src) (hg : RdG M X.K tg mg) (hsub : ∀ i ∈ slotsG mg, i ∈ own)
    (hb : RdTurn M X.K tt te fun φ st => evIf S ifs φ st fun st => R.bs (evE S elt φ st) fun y st => some (.ok [y] st)) :
    RdE M X.K W (tLc wi tg tt te own) (evE S (.lc live elt mg ik src ifs own)) := by
  intro σ H Q φ F ρ st r hh hs e post
  unfold tLc
  simp only [evE] at e
  obtain ⟨hok, hex⟩ := hi σ H _ φ F ρ st hh hs
  cases q : evEs S src φ st with
  | none => rw [q] at e; cases e
  | some rs =>
    rw [q] at e
    cases rs with
    | ex x st1 =>
      have e' : r = .ex x st1 := (Option.some.inj e).symm
      subst e'
      exact hex x st1 q post
    | ok vs st1 =>
      simp only [Rs.bind] at e
      cases qu : unpv vs with
      | none => simp [qu] at e
      | some ps =>
        simp only [qu] at e
        cases qi : items ik ps with
        | none => simp [qi] at e
        | some xs =>
          simp only [qi] at e
          split at e
          · rename_i all stE ql
            refine hok vs st1 ps xs q qu qi fun F1 ρ1 H1 J g1 h1 ito D nD => ?_
            have hall : all.length ≤ line := by
              unfold mkLst at e
              split at e
              · assumption
              · cases e
            refine lc_loop (body := fun φ st => evIf S ifs φ st fun st => R.bs (evE S elt φ st) fun y st => some (.ok [y] st)) (fun x st => rfl) hg hsub hb h1 (hs.g g1) ito nD ql hall fun F2 ρ2 H2 accV g2 h2 hD nF nρ ra => ?_
            exact mkLst_ok e (post.g g1) g2 nD h2 hD nF nρ ra
          · cases e
/-- the loop of a comprehension over a list where it stands -/
theorem lc_walk {tg : TG} {tt : TT} {te : TE} {mg : MG} {own : List Nat} {K : PySem.W.Frag} {F1 H1 : Hp} {ρ1 : List Addr} {st1 stE : Store} {all : List LV} {σ : L2.St} {φ : Slots} {D a : Addr} {Q : Hp → Prop} {n : Nat} {step : LV → Store → Option ERs} {body : Slots → Store → Option ERs}
    (hstep : ∀ x st, step x st = match asgG mg x (wipeL φ own) with
      | some φ1 => body φ1 st
      | none => none)
    (hg : RdG M K tg mg) (hsub : ∀ i ∈ slotsG mg, i ∈ own) (hb : RdTurn M K tt te body)
    (h1 : HR' M K F1 ρ1 H1 st1) (hs : SL M K F1 ρ1 σ φ) (ea : ρ1[n]? = some a) (nD : H1 D = none) (ql : lcWalk step n (walkF n st1) 0 st1 = some (all, stE)) (hall : all.length ≤ line)
    (hq : ∀ F2 ρ2 H2 accV, G F1 ρ1 H1 F2 ρ2 H2 → HR' M K F2 ρ2 H2 stE → H2 D = some (.lst accV) → F2 D = none → D ∉ ρ2 → RLs K F2 ρ2 all accV → Q H2) :
    ∃ W_1 : Nat → Nat → Hp → Prop, (∃ m, W_1 0 m (upd H1 D (.lst []))) ∧ ∀ i m H, W_1 i m H →
      ((Itl K a).stop i H ∧ Q H) ∨ ((Itl K a).go i H ∧ ∃ Nx : Hp → Prop, (∀ H', Nx H' → ∃ m', m' < m ∧ W_1 (i + 1) m' H') ∧ ∀ x H', (Itl K a).yld i H x H' → tg x (wipe σ own) H' fun σ2 H2 => wipe σ2 own = wipe σ own ∧ tt σ2 H2 fun b H3 =>
        if b = true then te σ2 H3 fun y H4 => ∃ acc, H4 D = some (.lst acc) ∧ acc.length < sizeLine ∧ Nx (upd H4 D (.lst (acc ++ [y]))) else Nx H3) := by
  obtain ⟨Inv, hInv⟩ : ∃ Inv : Nat → Nat → Hp → Prop, Inv = fun i f H => ∃ F2 ρ2 st2 acc accV zs, G F1 ρ1 H1 F2 ρ2 H ∧ HR' M K F2 ρ2 H st2 ∧ H D = some (.lst accV) ∧ F2 D = none ∧ D ∉ ρ2 ∧ RLs K F2 ρ2 acc accV ∧
      lcWalk step n f i st2 = some (zs, stE) ∧ acc ++ zs = all := ⟨_, rfl⟩
  refine ⟨fun i f H => Inv i f H, ⟨walkF n st1, ?_⟩, ?_⟩
  · obtain ⟨gL, hL⟩ := h1.laid nD (.lst [])
    rw [hInv]
    exact ⟨F1, ρ1, st1, [], [], all, gL, hL, upd_same, h1.fresh nD, h1.notin nD, by simp only [RLs], ql, rfl⟩
  rintro i f H2 hI
  rw [hInv] at hI
  obtain ⟨F2, ρ2, st2, acc, accV, zs, g2, h2, hD, nF2, nρ2, ra, el, eall⟩ := hI
  cases f with
  | zero => simp [lcWalk] at el
  | succ f =>
    unfold lcWalk at el
    have ea2 : ρ2[n]? = some a := g2.pre _ _ ea
    obtain ⟨c, ec, hc⟩ := h2.at ea2
    rw [ec] at el
    cases c with
    | dk _ _ => simp at el
    | dt _ _ => simp at el
    | ins _ _ => simp at el
    | lst live ys =>
      simp only at el
      obtain ⟨vs, hv1, hv2, _⟩ := hc
      have hqq : SqL K H2 a vs := .inl (.inl hv1)
      cases hx : ys[i]? with
      | none =>
        rw [hx] at el
        simp only [Option.some.injEq, Prod.mk.injEq] at el
        obtain ⟨el1, el2⟩ := el
        subst el1 el2
        rw [List.append_nil] at eall
        subst eall
        refine .inl ⟨⟨vs, hqq, ?_⟩, hq F2 ρ2 H2 accV g2 h2 hD nF2 nρ2 ra⟩
        rw [← hv2.length]
        exact List.getElem?_eq_none_iff.mp hx
      | some x =>
        rw [hx] at el
        simp only at el
        obtain ⟨u, hu1, hu2⟩ := hv2.get hx
        cases qs : step x st2 with
        | none => simp [qs, noX] at el
        | some rr =>
          cases rr with
          | ex x stx => simp [qs, noX] at el
          | ok ys2 st3 =>
            simp only [qs, noX] at el
            cases q3 : lcWalk step n f (i + 1) st3 with
            | none => simp [q3] at el
            | some p3 =>
              obtain ⟨zs', stE'⟩ := p3
              simp only [q3, Option.some.injEq, Prod.mk.injEq] at el
              obtain ⟨el1, el2⟩ := el
              subst el2
              refine .inr ⟨⟨vs, u, hqq, hu1⟩, Inv (i + 1) f, fun H' hN => ⟨f, Nat.lt_succ_self _, hN⟩, fun y H' hyl => ?_⟩
              obtain ⟨eH, hy⟩ := hyl
              subst eH
              have hy2 := hy vs hqq
              rw [hu1] at hy2
              cases hy2
              rw [hstep] at qs
              cases qa : asgG mg x (wipeL φ own) with
              | none => simp [qa] at qs
              | some φ1 =>
                simp only [qa] at qs
                refine hg x u (wipeL φ own) φ1 (wipe σ own) F2 ρ2 H' st2 _ h2 ((hs.g g2).wipe own) hu2 qa fun σ2 hs2 ho => ?_
                refine ⟨by rw [ho own hsub, wipe_wipe], ?_⟩
                refine hb φ1 σ2 F2 ρ2 H' st2 st3 ys2 (fun y H4 => ∃ acc, H4 D = some (.lst acc) ∧ acc.length < sizeLine ∧ Inv (i + 1) f (upd H4 D (.lst (acc ++ [y])))) (Inv (i + 1) f) h2 hs2 qs ?_
                intro F4 ρ4 H4 g4 h4
                obtain ⟨hD4, nF4, nρ4⟩ := g4.atD hD nF2 nρ2
                have gg : G F1 ρ1 H1 F4 ρ4 H4 := g2.trans g4
                have ra4 : RLs K F4 ρ4 acc accV := RLs.mono g4.sub g4.pre _ _ ra
                refine ⟨fun ey => ?_, fun y v ey ry => ?_⟩
                · subst ey
                  rw [hInv]
                  exact ⟨F4, ρ4, st3, acc, accV, zs', gg, h4, hD4, nF4, nρ4, ra4, q3, by rw [← eall, ← el1]; simp⟩
                · subst ey
                  have hlen : accV.length < sizeLine := by
                    rw [← ra4.length, line_eq]
                    have := hall
                    rw [← eall, ← el1] at this
                    simp only [List.length_append, List.length_cons, List.length_nil] at this
                    omega
                  obtain ⟨gU, hU⟩ := gg.turnD (o := .lst (accV ++ [v])) nD h4 nF4 nρ4
                  refine ⟨accV, hD4, hlen, ?_⟩
                  rw [hInv]
                  exact ⟨F4, ρ4, st3, acc ++ [y], accV ++ [v], zs', gU, hU, upd_same, nF4, nρ4, ra4.snoc ry, q3, by rw [← eall, ← el1]; simp⟩
/-- its reading -/
theorem rd_lcW {tl : TE} {tg : TG} {tt : TT} {te : TE} {mg : MG} {src : ME} {ifs : List MT} {elt : ME} {own : List Nat} {live : Bool}
    (hi : RdE M X.K W tl (evE S src)) (hg : RdG M X.K tg mg) (hsub : ∀ i ∈ slotsG mg, i ∈ own)
    (hb : RdTurn M X.K tt te fun φ st => evIf S ifs φ st fun st => R.bs (evE S elt φ st) fun y st => some (.ok [y] st)) :
    RdE M X.K W (tLc (iList X.K tl) tg tt te own) (evE S (.lcW live elt mg src ifs own)) := by
  intro σ H Q φ F ρ st r hh hs e post
  unfold tLc
  simp only [evE] at e
  show tl σ H _
  refine hi.bind hh hs e post fun v st1 F1 ρ1 H1 w e1 g1 h1 r1 p1 => ?_
  cases v with
  | pv _ => simp at e1
  | tup _ => simp at e1
  | exn _ => simp at e1
  | ref n =>
    simp only at e1
    simp only [RL] at r1
    obtain ⟨a, ew, ea⟩ := r1
    subst ew
    split at e1
    · rename_i all stE ql
      have there : ∃ xs, SqL X.K H1 a xs := by
        obtain ⟨c, ec, hc⟩ := h1.at ea
        unfold walkF at ql
        rw [ec] at ql
        cases c with
        | lst live ys => obtain ⟨vs, h1, _⟩ := hc; exact ⟨vs, .inl (.inl h1)⟩
        | dk _ _ => simp [lcWalk] at ql
        | dt _ _ => simp [lcWalk] at ql
        | ins _ _ => simp [lcWalk] at ql
      refine ⟨a, rfl, there, ?_⟩
      intro D nD
      have hall : all.length ≤ line := by
        unfold mkLst at e1
        split at e1
        · assumption
        · cases e1
      refine lc_walk (body := fun φ st => evIf S ifs φ st fun st => R.bs (evE S elt φ st) fun y st => some (.ok [y] st)) (fun x st => rfl) hg hsub hb h1 (hs.g g1) ea nD ql hall fun F2 ρ2 H2 accV g2 h2 hD nF nρ ra => ?_
      exact mkLst_ok e1 p1 g2 nD h2 hD nF nρ ra
    · cases e1
theorem comps_eq {gs : List Comprehension} {t it : Expr} {is : List Expr} (hc : comps gs = some (t, it, is)) : gs = [⟨t, it, is, 0⟩] := by
  unfold comps at hc
  split at hc
  · split at hc
    · rename_i ha
      simp only [Option.some.injEq, Prod.mk.injEq] at hc
      obtain ⟨e1, e2, e3⟩ := hc
      subst e1 e2 e3 ha; rfl
    · cases hc
  · cases hc
theorem own_map {N : List Str} : ∀ (own : List Nat) (ow : List (Str × Nat)), ownOf N own = some ow → ow.map (·.2) = own := by
  intro own
  induction own with
  | nil => intro ow e; simp only [ownOf, Option.some.injEq] at e; subst e; rfl
  | cons i r ih =>
    intro ow e
    unfold ownOf at e
    split at e
    · simp only [Option.map_eq_some_iff] at e
      obtain ⟨ow', e1, e2⟩ := e
      subst e2
      simp [ih ow' e1]
    · cases e
end
end Z
end

section
/-! ZN: every expression that the look accepts does what the semantics says. -/
namespace Z
open PySem PySem.Spec PyProof.Rows L2
section
variable {X : Cx} {g : SC} {M : Nm} {S : Sem} {W : WX} {k : Nat}
/-! ### single constructs -/
theorem rd_var (i : Nat) : RdE M X.K W (tVar i) (evE S (.var i)) := by
  intro σ H Q φ F ρ st r hh hs e p
  simp only [evE] at e
  split at e
  · cases e
  · rename_i v hx hv
    simp only [Option.some.injEq] at e
    subst e
    obtain ⟨u, h1, h2⟩ := hs.2 i v hv
    exact ⟨u, h1, p.here hh (h2.rl fun e z => hx e z)⟩
  · cases e
theorem lit_ok {p : PV} {c : Const} {n : Nat} {pos : Pos} (h : litOk p c = true) : ∃ v, PE X (.Constant c n pos) (tC v) ∧ RP X.K (fun _ => none) p v := by
  cases p <;> cases c <;> simp only [litOk, Bool.and_eq_true, decide_eq_true_eq, beq_iff_eq, reduceCtorEq, Bool.false_eq_true] at h
  · exact ⟨_, pe_non, by simp only [RP]⟩
  · subst h; exact ⟨_, pe_bl, by simp only [RP]⟩
  · subst h; exact ⟨_, pe_int, by simp only [RP]⟩
  · obtain ⟨h1, h2⟩ := h
    subst h1
    exact ⟨_, pe_str, by simp only [RP, true_and]; exact h2⟩
theorem rd_const {p : PV} {v : V} {f : Slots → Store → Option ER} (r : RP X.K (fun _ => none) p v) (hf : ∀ φ st, f φ st = some (.ok (.pv p) st) ∨ f φ st = none) : RdE M X.K W (tC v) f := by
  intro σ H Q φ F ρ st res hh hs e post
  rcases hf φ st with h | h
  · rw [h] at e
    simp only [Option.some.injEq] at e
    subst e
    exact post.tree hh (RP.mono (fun b o z => by cases z) _ _ r)
  · rw [h] at e; cases e
theorem rd_tup {t : TA} {ms : List ME} (h : RdA M X.K W t (evEs S ms)) : RdE M X.K W (tTup t) (evE S (.tup ms)) := by
  intro σ H Q φ F ρ st r hh hs e p
  simp only [evE] at e
  refine h.bind hh hs e p fun xs st1 F1 ρ1 H1 vs e1 g1 h1 r1 p1 => ?_
  split at e1
  · rename_i hl
    simp only [Option.some.injEq] at e1
    subst e1
    refine ⟨by rw [← r1.length, line_eq]; exact hl, fun a na => ?_⟩
    obtain ⟨g2, h2⟩ := h1.new na (.tup vs)
    exact p1 _ _ _ _ g2 h2 (RL_mkTup (RLs.mono g2.sub g2.pre _ _ r1) upd_same)
  · cases e1
theorem rd_lst {t : TA} {ms : List ME} {live : Bool} (h : RdA M X.K W t (evEs S ms)) : RdE M X.K W (tLst t) (evE S (.lst live ms)) := by
  intro σ H Q φ F ρ st r hh hs e p
  simp only [evE] at e
  refine h.bind hh hs e p fun xs st1 F1 ρ1 H1 vs e1 g1 h1 r1 p1 => ?_
  have hl : xs.length ≤ line := by
    unfold mkLst at e1
    split at e1
    · assumption
    · cases e1
  refine ⟨by rw [← r1.length, line_eq]; exact hl, fun a na => ?_⟩
  obtain ⟨g2, h2⟩ := h1.laid na (.lst vs)
  exact mkLst_ok e1 p1 g2 na h2 upd_same (h1.fresh na) (h1.notin na) (RLs.mono g2.sub g2.pre _ _ r1)
theorem rd_dnew (t : Bool) : RdE M X.K W (if t then tDNewT else tDNewK) (evE S (.dnew t)) := by
  intro σ H Q φ F ρ st r hh hs e p
  simp only [evE, Option.some.injEq] at e
  subst e
  cases t with
  | true =>
    show tDNewT σ H Q
    intro a na
    obtain ⟨g2, h2⟩ := hh.cellN na (o := .dT []) (c := .dt true []) ⟨[], upd_same, by simp only [RLt], fun _ => hh.fresh na, fun z => Bool.noConfusion z⟩
    refine p _ _ _ _ g2 (by simpa using h2) ?_
    simp only [RL]
    exact ⟨a, rfl, by rw [← hh.len, List.getElem?_append_right (Nat.le_refl _)]; simp⟩
  | false =>
    show tDNewK σ H Q
    intro a na
    obtain ⟨g2, h2⟩ := hh.cellN na (o := .dK []) (c := .dk true []) ⟨[], upd_same, by simp only [RLk], fun _ => hh.fresh na, fun z => Bool.noConfusion z⟩
    refine p _ _ _ _ g2 (by simpa using h2) ?_
    simp only [RL]
    exact ⟨a, rfl, by rw [← hh.len, List.getElem?_append_right (Nat.le_refl _)]; simp⟩
theorem rd_neg {t : TE} {f : Slots → Store → Option ER} (h : RdE M X.K W t f) : RdE M X.K W (tUn (rU fun i => .int (-i)) t) fun φ st => R.bind (f φ st) fun x st => match x with
    | .pv (.int i) => some (.ok (.pv (.int (-i))) st)
    | _ => none := by
  intro σ H Q φ F ρ st r hh hs e p
  refine h.bind hh hs e p fun x st1 F1 ρ1 H1 v e1 g1 h1 r1 p1 => ?_
  split at e1
  · simp only [Option.some.injEq] at e1
    subst e1
    simp only [RL, RP] at r1
    exact ⟨_, r1, p1.tree h1 (by simp only [RP])⟩
  · cases e1
theorem rd_ite {tc : TT} {ta tb : TE} {fc : Slots → Store → Option ET} {fa fb : Slots → Store → Option ER} (hc : RdT M X.K W tc fc) (ha : RdE M X.K W ta fa) (hb : RdE M X.K W tb fb) :
    RdE M X.K W (tIf tc ta tb) fun φ st => T.bind (fc φ st) fun d st => if d then fa φ st else fb φ st := by
  intro σ H Q φ F ρ st r hh hs e p
  refine hc.bind hh hs e p fun d st1 F1 ρ1 H1 e1 g1 h1 p1 => ?_
  cases d with
  | true =>
    rw [if_pos rfl] at e1 ⊢
    exact ha σ H1 Q φ F1 ρ1 st1 r h1 (hs.g g1) e1 p1
  | false =>
    rw [if_neg Bool.false_ne_true] at e1 ⊢
    exact hb σ H1 Q φ F1 ρ1 st1 r h1 (hs.g g1) e1 p1
def tIsNB (neg : Bool) (t : TE) : TE := tOp (fun x y H Q => y = .non ∧ Q (.bl (neg ^^ decide (x = .non))) H) t (tC .non)
theorem RL_non {F : Hp} {ρ : List Addr} {K : PySem.W.Frag} : ∀ {x : LV} {v : V}, RL K F ρ x v → (v = .non ↔ x = .pv .non)
  | .pv .non, v, h => by simp only [RL, RP] at h; subst h; simp
  | .pv (.bl b), v, h => by simp only [RL, RP] at h; subst h; simp
  | .pv (.int b), v, h => by simp only [RL, RP] at h; subst h; simp
  | .pv (.str b), v, h => by simp only [RL, RP] at h; obtain ⟨h, _⟩ := h; subst h; simp
  | .pv (.tup b), v, h => by simp only [RL, RP] at h; obtain ⟨a, vs, h, _⟩ := h; subst h; simp
  | .pv (.lst b), v, h => by simp only [RL, RP] at h; obtain ⟨a, vs, h, _⟩ := h; subst h; simp
  | .pv (.dk b), v, h => by simp only [RL, RP] at h; obtain ⟨a, vs, h, _⟩ := h; subst h; simp
  | .pv (.dt b), v, h => by simp only [RL, RP] at h; obtain ⟨a, vs, h, _⟩ := h; subst h; simp
  | .pv (.scr b), v, h => by simp only [RL, RP] at h; obtain ⟨a, h, _⟩ := h; subst h; simp
  | .ref n, v, h => by simp only [RL] at h; obtain ⟨a, h, _⟩ := h; subst h; simp
  | .tup xs, v, h => by simp only [RL] at h; obtain ⟨a, vs, h, _⟩ := h; subst h; simp
theorem rd_isn {t : TE} {f : Slots → Store → Option ER} {neg : Bool} (h : RdE M X.K W t f) : RdE M X.K W (tIsNB neg t) fun φ st => R.bind (f φ st) fun x st => match x with
    | .pv .non => some (.ok (.pv (.bl (!neg))) st)
    | _ => some (.ok (.pv (.bl neg)) st) := by
  intro σ H Q φ F ρ st r hh hs e p
  refine h.bind hh hs e p fun x st1 F1 ρ1 H1 v e1 g1 h1 r1 p1 => ⟨rfl, ?_⟩
  have hn := RL_non r1
  split at e1
  · simp only [Option.some.injEq] at e1
    subst e1
    rw [decide_eq_true (hn.mpr rfl), Bool.xor_true]
    exact p1.tree h1 (by simp only [RP])
  · rename_i hx
    simp only [Option.some.injEq] at e1
    subst e1
    rw [decide_eq_false (fun z => hx (hn.mp z)), Bool.xor_false]
    exact p1.tree h1 (by simp only [RP])
theorem op_isNB (neg : Bool) : OpR X (compareOp (if neg then CmpOp.IsNot else CmpOp.Is)) (fun x y H Q => y = .non ∧ Q (.bl (neg ^^ decide (x = .non))) H) := by
  cases neg with
  | true => simpa using op_notN (X := X)
  | false => simpa using op_isN (X := X)
def tTru (K : PySem.W.Frag) (t : TE) : TT := fun σ H Q => t σ H fun x H' => ∃ k, TruV K x H' k ∧ Q k H'
theorem rd_tru1 {t : TE} {f : Slots → Store → Option ER} (h : RdE M X.K W t f) : RdT M X.K W (tTru X.K t) fun φ st => R.bt (f φ st) fun v st => (truL v st).map fun b => .ok b st := by
  intro σ H Q φ F ρ st r hh hs e p
  refine h.bindT hh hs e p fun x st1 F1 ρ1 H1 v e1 g1 h1 r1 p1 => ?_
  simp only [Option.map_eq_some_iff] at e1
  obtain ⟨b, e2, e3⟩ := e1
  subst e3
  exact ⟨b, rd_truL h1 r1 e2, p1 F1 ρ1 H1 (G.refl _ _ _) h1⟩
/-- a bool as a test -/
theorem rd_test {t : TE} {f : Slots → Store → Option ER} (h : RdE M X.K W t f) (hb : ∀ φ st x st', f φ st = some (.ok x st') → ∃ b, x = .pv (.bl b)) : RdT M X.K W (tTest t) fun φ st => R.bt (f φ st) fun v st => (truL v st).map fun b => .ok b st := by
  intro σ H Q φ F ρ st r hh hs e p
  simp only at e
  cases q : f φ st with
  | none => rw [q] at e; cases e
  | some a =>
    rw [q] at e
    cases a with
    | ex x st1 =>
      have e' : r = .ex x st1 := (Option.some.inj e).symm
      subst e'
      exact h σ H _ φ F ρ st _ hh hs q p
    | ok x st1 =>
      obtain ⟨b, hx⟩ := hb φ st x st1 q
      subst hx
      simp only [R.bt, truL, lenL, peek, tru, Option.map_some, Option.some.injEq] at e
      subst e
      refine h σ H _ φ F ρ st _ hh hs q fun F1 ρ1 H1 v g1 h1 r1 => ?_
      simp only [RL, RP] at r1
      exact ⟨b, r1, p F1 ρ1 H1 g1 h1⟩
theorem rd_notT {t : TT} {f : Slots → Store → Option ET} (h : RdT M X.K W t f) : RdT M X.K W (tNot t) fun φ st => T.bt (f φ st) fun b st => some (.ok (!b) st) := by
  intro σ H Q φ F ρ st r hh hs e p
  refine h.bindT hh hs e p fun d st1 F1 ρ1 H1 e1 g1 h1 p1 => ?_
  simp only [Option.some.injEq] at e1
  subst e1
  exact p1 F1 ρ1 H1 (G.refl _ _ _) h1
/-- not t, as a value -/
def tNotE (t : TT) : TE := fun σ H Q => t σ H fun b H1 => Q (.bl (!b)) H1
theorem cmp_bool {op : CO} {x y : LV} {st st' : Store} {z : LV} (e : cmp op x y st = some (.ok z st')) : ∃ b, z = .pv (.bl b) := by
  unfold cmp at e
  split at e
  · simp only [Option.map_eq_some_iff, ER.ok.injEq] at e
    obtain ⟨c, _, e1, _⟩ := e
    exact ⟨c, e1.symm⟩
  · cases e
theorem bind_bool {f : Slots → Store → Option ER} {gg : LV → Store → Option ER} (h : ∀ x st y st', gg x st = some (.ok y st') → ∃ b, y = .pv (.bl b)) {φ : Slots} {st st' : Store} {y : LV} (e : R.bind (f φ st) gg = some (.ok y st')) : ∃ b, y = .pv (.bl b) := by
  unfold R.bind at e
  split at e
  · exact h _ _ _ _ e
  · cases e
  · cases e
/-- the slice -/
theorem sIx_eq (n d : Nat) (o : Option Int) : HT.sIx n d o = sIx n d o := by
  cases o with
  | none => rfl
  | some v => rfl
theorem cutV_ok {K : PySem.W.Frag} {F : Hp} {xs : List PV} {vs : List V} (h : RPs K F xs vs) (lo hi : Option Int) : RPs K F (cut xs lo hi) (cutV vs lo hi) := by
  unfold cutV cut
  rw [sIx_eq, sIx_eq, ← h.length]
  exact (h.drop _).take _
def RdO (M : Nm) (K : PySem.W.Frag) (W : WX) (t : TO) (there : Bool) (f : Slots → Store → Option ER) : Prop := ∀ σ H (Q : Option Int → Hp → Prop) φ F ρ st r, HR' M K F ρ H st → SL M K F ρ σ φ → f φ st = some r →
  (match r with
    | .ok x st1 => ∃ o, optL there x = some o ∧ ∀ F1 ρ1 H1, G F ρ H F1 ρ1 H1 → HR' M K F1 ρ1 H1 st1 → Q o H1
    | .ex e st1 => ∀ F' ρ' H' cls d, G F ρ H F' ρ' H' → HR' M K F' ρ' H' st1 → RX M K F' H' e cls d → W cls d σ H') → t σ H Q
theorem rdo_none : RdO M X.K W tNoPart false fun φ st => some (.ok (.pv .non) st) := by
  intro σ H Q φ F ρ st r hh hs e p
  simp only [Option.some.injEq] at e
  subst e
  obtain ⟨o, h1, h2⟩ := p
  simp only [optL, Bool.false_eq_true, if_false, Option.some.injEq] at h1
  subst h1
  exact h2 F ρ H (G.refl _ _ _) hh
theorem rdo_some {t : TE} {f : Slots → Store → Option ER} (h : RdE M X.K W t f) : RdO M X.K W (tPart t) true f := by
  intro σ H Q φ F ρ st r hh hs e p
  cases r with
  | ex x st1 => exact h σ H _ φ F ρ st _ hh hs e p
  | ok x st1 =>
    obtain ⟨o, h1, h2⟩ := p
    refine h σ H _ φ F ρ st _ hh hs e fun F1 ρ1 H1 v g1 hh1 r1 => ?_
    simp only [optL, if_true] at h1
    split at h1
    · simp only [Option.some.injEq] at h1
      subst h1
      simp only [RL, RP] at r1
      exact ⟨_, r1, h2 F1 ρ1 H1 g1 hh1⟩
    · cases h1
def rSlW (K : PySem.W.Frag) : V → Option Int → Option Int → Hp → VK → Prop := fun x lo hi H Q => rSlL K x lo hi H Q ∨ rSlA K x lo hi H Q ∨ rSlS x lo hi H Q
theorem sl_W : SlR X (rSlW X.K) := sl_list.or (sl_tupA.or sl_str)
theorem cutS_ok (x : Sg) (lo hi : Option Int) : cutS (mkS x) lo hi = mkS (cut x lo hi) := by
  have ix : ∀ (n d : Nat) (o : Option Int), HT.sIx n d o = sIx n d o := fun n d o => by cases o <;> rfl
  unfold cutS mkS cut
  rw [ix, ix]
  simp [Str.length]
theorem okS_cut {x : Sg} (h : okS x = true) (lo hi : Option Int) : okS (cut x lo hi) = true := by
  unfold okS cut at *
  rw [List.all_eq_true] at h ⊢
  exact fun c hc => h c (List.mem_of_mem_drop (List.mem_of_mem_take hc))
/-! ### a tuple turned round -/
section
open PySem
variable {prog : Program} {w : World} {A : Around} {E : Value → Shared → Prop} {s : Shared}
theorem sliceApplied_rev {sl : Addr} {vl vu vs : Value} {n : Nat} {Q : Int × Int × Nat → Shared → Prop} (hs : s.heap.IsSliceOf sl vl vu vs) (pl : IsPart vl none) (pu : IsPart vu none) (ps : IsPart vs (some (-1)))
    (h : Q ((n : Int) - 1, -1, n) s) : wpAny (model prog w) A (Builtin.Slice.sliceApplied (.ref sl) (pure (n : Int))) Q E s := by
  obtain ⟨os, hos, hcs, hds⟩ := id hs
  unfold Builtin.Slice.sliceApplied Builtin.Slice.sliceFields
  refine wpAny_bind (wpAny_bind (wpAny_field hos hds (x := vl) rfl (wpAny_bind (wpAny_field hos hds (x := vu) rfl (wpAny_bind (wpAny_field hos hds (x := vs) rfl (wpAny_pure ?_)))))))
  refine wpAny_bind (HT.slicePart_ ps ?_)
  show wpAny _ _ (if ((-1 : Int) == 0) = true then _ else _) _ _ s
  rw [if_neg (by decide)]
  refine wpAny_bind (HT.slicePart_ pl (wpAny_bind (HT.slicePart_ pu (wpAny_bind (wpAny_pure ?_)))))
  show wpAny _ _ (match Builtin.Slice.sliceAdjust none none (-1) (n : Int) with | (lo, hi) => pure (lo, (-1 : Int), Builtin.Slice.slicePlaces lo hi (-1))) _ _ s
  have e1 : Builtin.Slice.sliceAdjust none none (-1) (n : Int) = ((n : Int) - 1, -1) := rfl
  rw [e1]
  show wpAny _ _ (pure ((n : Int) - 1, (-1 : Int), Builtin.Slice.slicePlaces ((n : Int) - 1) (-1) (-1))) _ _ s
  have e2 : Builtin.Slice.slicePlaces ((n : Int) - 1) (-1) (-1) = n := by
    unfold Builtin.Slice.slicePlaces
    simp
    try omega
  rw [e2]
  exact wpAny_pure h
theorem pick_rev (xs : Array Value) : ((List.range xs.size).filterMap fun (m : Nat) => xs[(((xs.size : Int) - 1) + (m : Int) * (-1)).toNat]?).toArray = xs.toList.reverse.toArray := by
  congr 1
  have e : ∀ ms : List Nat, (∀ m ∈ ms, m < xs.size) → ms.filterMap (fun (m : Nat) => xs[(((xs.size : Int) - 1) + (m : Int) * (-1)).toNat]?) = ms.filterMap (fun m => xs.toList.reverse[m]?) := by
    intro ms
    induction ms with
    | nil => intro _; rfl
    | cons m ms ih =>
      intro h
      have hm' : m < xs.size := h m (by simp)
      have e1 : (((xs.size : Int) - 1) + (m : Int) * (-1)).toNat = xs.size - 1 - m := by omega
      rw [List.filterMap_cons, List.filterMap_cons, ih fun k hk => h k (by simp [hk]), e1, List.getElem?_reverse (by simpa using hm'), Array.getElem?_toList, Array.length_toList]
  rw [e _ fun m hm => List.mem_range.mp hm]
  have : ∀ (l pre : List Value), (List.range' pre.length l.length).filterMap (fun m => (pre ++ l)[m]?) = l := by
    intro l
    induction l with
    | nil => intro pre; simp
    | cons x l ih =>
      intro pre
      have := ih (pre ++ [x])
      rw [List.length_append, List.append_assoc] at this
      rw [List.length_cons, List.range'_succ, List.filterMap_cons]
      have e0 : (pre ++ x :: l)[pre.length]? = some x := by simp
      rw [e0]
      simp only
      exact congrArg _ this
  have h := this xs.toList.reverse []
  rw [List.length_reverse, Array.length_toList] at h
  rw [List.range_eq_range']
  exact h
theorem getItem_tuple_rev {t sl : Addr} {items : Array Value} {vl vu vs : Value} {Q : Value → Shared → Prop} (ht : IsTup s.heap t items) (hs : s.heap.IsSliceOf sl vl vu vs) (pl : IsPart vl none) (pu : IsPart vu none) (ps : IsPart vs (some (-1)))
    (h : Q (.ref s.heap.objs.size) { s with heap := s.heap.push { cls := .type "tuple", data := .seq items.toList.reverse.toArray } })
    (hsz : items.size ≤ sizeLine) : wpAny (model prog w) A (getItem (.ref t) (.ref sl)) Q E s := by
  have htake : sizeOk (.seq items.toList.reverse.toArray) := by
    show items.toList.reverse.toArray.size ≤ sizeLine
    rw [List.size_toArray, List.length_reverse, Array.length_toList]
    exact hsz
  obtain ⟨os, hos, hcs, hds⟩ := id hs
  have hTs : s.TypeIs (.ref sl) "slice" := ⟨os, hos, hcs⟩
  unfold getItem
  try with_reducible refine wpAny_holding ?_
  first | refine wpAny_bind (wpAny_pure ?_) | skip
  refine wpAny_bind (wpAny_sequenceKey ht.typeIs (by decide) ?_)
  refine wpAny_bind (wpAny_callSpecial?_slot (name := Str.ofString "__getitem__") ht.typeIs PyProof.Rows.slot_tuple_getitem
    (wpAny_call_entry PyProof.Rows.slot_tuple_getitem ht.typeIs entry_tuple_getitem ?_ (args_tuple_getitem _ _)))
  show wpAny _ _ (Builtin.Tuple.tupleItemsOf (.ref t) >>= _) _ _ s
  refine wpAny_bind (tupleItemsOf_ ht ?_)
  refine wpAny_bind (wpAny_typeOf hTs ?_)
  rw [if_pos (by decide)]
  refine wpAny_bind (sliceApplied_rev hs pl pu ps ?_)
  show wpAny _ _ (if (((items.size : Int) - 1) == 0 && (-1 : Int) == 1 && items.size == items.size) = true then _ else _) _ _ s
  rw [if_neg (by simp), pick_rev]
  first
    | exact wpAny_bind (m := Builtin.Tuple.tupleExact _) (wpAny_newObj_type (wpAny_pure ⟨_, rfl, wpAny_pure h⟩) htake)
    | exact wpAny_bind (m := Builtin.Tuple.tupleExact _) (wpAny_newObj_type (wpAny_bind (wpAny_pure (wpAny_pure ⟨_, rfl, wpAny_pure h⟩))) htake)
    | exact wpAny_bind (wpAny_bind (m := Builtin.Tuple.tupleExact _) (wpAny_newObj_type (wpAny_pure (wpAny_pure ⟨_, rfl, wpAny_pure h⟩)) htake))
    | exact wpAny_bind (wpAny_bind (m := Builtin.Tuple.tupleExact _) (wpAny_newObj_type (wpAny_pure ⟨_, rfl, wpAny_pure h⟩) htake))
end
def tRevT (K : PySem.W.Frag) (te : TE) : TE := fun σ H Q => te σ H fun x H1 => ∃ a xs, x = .ref a ∧ SqT K H1 a xs ∧ ∀ p, H1 p = none → Q (.ref p) (upd H1 p (.tup xs.reverse))
theorem pe_revT {X : Cx} {e : Expr} {te : TE} {k : Nat} {p1 p2 p3 pos : Pos} (he : PE X e te) : PE X (.Subscript e (.Slice none none (some (.UnaryOp .USub (.Constant (.int 1) k p1) p2)) p3) pos) (tRevT X.K te) := by
  refine ⟨fun pins s σ H Q I h => ?_⟩
  refine Subscript_ (thn (he.run pins s σ H _ I h) fun v s1 ⟨x, H1, I1, r1, q1⟩ => ?_)
  obtain ⟨a, xs, ex, hx, q⟩ := q1
  subst ex
  cases r1
  have hst : PO X (some (.UnaryOp .USub (.Constant (.int 1) k p1) p2)) (tPart (tUn (rU fun i => .int (-i)) (tC (.int 1)))) := po_some (pe_un un_neg pe_int)
  refine wpAny_Slice (thn (po_none.run pins s1 σ H1 (fun o H2 => o = none ∧ H2 = H1) I1 ⟨rfl, rfl⟩) fun vl s2 ⟨l, H2, I2, pl, el, e2⟩ => ?_)
  subst el e2
  refine thn (po_none.run pins s2 σ H2 (fun o H3 => o = none ∧ H3 = H2) I2 ⟨rfl, rfl⟩) fun vu s3 ⟨u, H3, I3, pu, eu, e3⟩ => ?_
  subst eu e3
  refine thn (hst.run pins s3 σ H3 (fun o H4 => o = some (-1) ∧ H4 = H3) I3 ⟨1, rfl, -1, rfl, rfl, rfl⟩) fun vs s4 ⟨o, H4, I4, ps, eo, e4⟩ => ?_
  subst eo e4
  have I5 : Inv X pins σ H4 { s4 with heap := s4.heap.push { cls := .type "slice", data := .fields #[vl, vu, vs] } } := I4.kept (t' := s4.toks) fun b ob q => Heap.get?_push_of_some _ q
  obtain ⟨its, r, ht, hz⟩ := I5.tuple hx
  have hlen := r.length
  show wpAny (model X.prog X.w) X.A (subscriptTail e (.Slice none none (some (.UnaryOp .USub (.Constant (.int 1) k p1) p2)) p3) (.ref a) (.ref s4.heap.objs.size)) (EP X pins σ Q) X.xe { s4 with heap := s4.heap.push { cls := .type "slice", data := .fields #[vl, vu, vs] } }
  refine tail_any (ops := [.ref a, .ref s4.heap.objs.size]) ht.typeIs (PyProof.Rows.slot_tuple_getitem.lookup) ?_ (by with_unfolding_all rfl)
  refine getItem_tuple_rev ht (Heap.IsSliceOf.new _ vl vu vs) pl pu ps ?_ (by rw [List.size_toArray]; omega)
  refine ⟨.ref _, _, I5.laid (t' := s4.toks) (o := .tup xs.reverse) (fun b ob q => Heap.get?_push_of_some _ q) (Nat.le_refl _) ?_, rfl, q _ (I5.hok.fresh (Nat.le_refl _))⟩
  exact ⟨by rw [List.length_reverse]; exact hz, _, r.reverse, IsTup.new _ _⟩
theorem pe_or2 {X : Cx} {e : Expr} {t t' : TE} (h : PE X e t) (h' : PE X e t') : PE X e (fun σ H Q => t σ H Q ∨ t' σ H Q) := ⟨fun pins s σ H Q I q => q.elim (h.run pins s σ H Q I) (h'.run pins s σ H Q I)⟩
theorem RPs.rev {K : PySem.W.Frag} {F : Hp} : ∀ {xs : List PV} {vs : List V}, RPs K F xs vs → RPs K F xs.reverse vs.reverse
  | [], vs, h => by simp only [RPs] at h; subst h; simp [RPs]
  | x :: xs, vs, h => by
    simp only [RPs] at h
    obtain ⟨v, r, e1, e2, e3⟩ := h
    subst e1
    rw [List.reverse_cons, List.reverse_cons]
    exact (RPs.rev e3).append (by simp only [RPs]; exact ⟨v, [], rfl, e2, rfl⟩)
theorem rd_rev {ta : TE} {fa : Slots → Store → Option ER} (ha : RdE M X.K W ta fa) : RdE M X.K W (fun σ H Q => tRevS ta σ H Q ∨ tRevT X.K ta σ H Q ∨ tRevL X.K ta σ H Q) (fun φ st => R.bind (fa φ st) fun x st => match x with
    | .pv (.str s) => if s.length ≤ 2 then some (.ok (.pv (.str s.reverse)) st) else none
    | .pv (.tup xs) => if xs.length ≤ line then some (.ok (.pv (.tup xs.reverse)) st) else none
    | .pv (.lst xs) => some (.ok (.pv (.lst xs.reverse)) st)
    | _ => none) := by
  intro σ H Q φ F ρ st r hh hs e p
  simp only at e
  cases q : fa φ st with
  | none => rw [q] at e; cases e
  | some ra =>
  rw [q] at e
  cases ra with
  | ex x st1 =>
    cases e
    exact .inl (ha σ H _ φ F ρ st _ hh hs q p)
  | ok y st1 =>
  simp only [R.bind] at e
  match y, e, q with
  | .pv (.str s), e1, q =>
    simp only at e1
    split at e1
    · rename_i hl
      simp only [Option.some.injEq] at e1
      subst e1
      refine .inl (ha σ H _ φ F ρ st _ hh hs q fun F1 ρ1 H1 v g1 h1 r1 => ?_)
      simp only [RL, RP] at r1
      obtain ⟨rv, ok⟩ := r1
      refine ⟨mkS s, rv, by rw [mkS_len]; exact hl, (p.g g1).tree h1 ?_⟩
      simp only [RP]
      refine ⟨by unfold revS mkS; simp, ?_⟩
      simp only [okS, List.all_eq_true, List.mem_reverse] at ok ⊢
      exact ok
    · cases e1
  | .pv (.tup xs), e1, q =>
    simp only at e1
    split at e1
    · rename_i hl
      simp only [Option.some.injEq] at e1
      subst e1
      refine .inr (.inl (ha σ H _ φ F ρ st _ hh hs q fun F1 ρ1 H1 v g1 h1 r1 => ?_))
      simp only [RL, RP] at r1
      obtain ⟨a, vs, ea, eb, ec⟩ := r1
      subst ea
      refine ⟨a, vs, rfl, .inl (.inl (h1.sub _ _ eb)), fun b nb => (p.g g1).made h1 nb ?_⟩
      simp only [RP]
      exact ⟨b, _, rfl, upd_same, RPs.mono (sub_upd (h1.fresh nb)) _ _ ec.rev⟩
    · cases e1
  | .pv (.lst xs), e1, q =>
    simp only [Option.some.injEq] at e1
    subst e1
    refine .inr (.inr (ha σ H _ φ F ρ st _ hh hs q fun F1 ρ1 H1 v g1 h1 r1 => ?_))
    simp only [RL, RP] at r1
    obtain ⟨a, vs, ea, eb, ec⟩ := r1
    subst ea
    refine ⟨a, vs, rfl, .inl (.inl (h1.sub _ _ eb)), fun b nb => (p.g g1).made h1 nb ?_⟩
    simp only [RP]
    exact ⟨b, _, rfl, upd_same, RPs.mono (sub_upd (h1.fresh nb)) _ _ ec.rev⟩
  | .pv .non, e1, _ => cases e1
  | .pv (.bl _), e1, _ => cases e1
  | .pv (.int _), e1, _ => cases e1
  | .pv (.dk _), e1, _ => cases e1
  | .pv (.dt _), e1, _ => cases e1
  | .pv (.scr _), e1, _ => cases e1
  | .ref _, e1, _ => cases e1
  | .tup _, e1, _ => cases e1
  | .exn _, e1, _ => cases e1
theorem rd_slc {ta : TE} {tl th : TO} {fa fl fh : Slots → Store → Option ER} {l h : Bool} (ha : RdE M X.K W ta fa) (hl : RdO M X.K W tl l fl) (hu : RdO M X.K W th h fh) :
    RdE M X.K W (tSl (rSlW X.K) ta tl th) fun φ st => R.bind (fa φ st) fun x st => R.bind (fl φ st) fun lv st => match optL l lv with
      | some lo => R.bind (fh φ st) fun hv st => match optL h hv, peek st x with
        | some hi, some x => okP st (doSlc x lo hi)
        | _, _ => none
      | none => none := by
  intro σ H Q φ F ρ st r hh hs e p
  refine ha.bind hh hs e p fun x st1 F1 ρ1 H1 v e1 g1 h1 r1 p1 => ?_
  have hs1 := hs.g g1
  cases ql : fl φ st1 with
  | none => rw [ql] at e1; cases e1
  | some rl =>
    rw [ql] at e1
    cases rl with
    | ex y st2 =>
      have e' : r = .ex y st2 := (Option.some.inj e1).symm
      subst e'
      exact hl σ H1 _ φ F1 ρ1 st1 _ h1 hs1 ql p1
    | ok y st2 =>
      simp only [R.bind] at e1
      split at e1
      · rename_i lo elo
        refine hl σ H1 _ φ F1 ρ1 st1 _ h1 hs1 ql ⟨lo, elo, fun F2 ρ2 H2 g2 h2 => ?_⟩
        have hs2 := hs1.g g2
        have p2 := p1.g g2
        cases qh : fh φ st2 with
        | none => rw [qh] at e1; cases e1
        | some rh =>
          rw [qh] at e1
          cases rh with
          | ex z st3 =>
            have e' : r = .ex z st3 := (Option.some.inj e1).symm
            subst e'
            exact hu σ H2 _ φ F2 ρ2 st2 _ h2 hs2 qh p2
          | ok z st3 =>
            simp only at e1
            split at e1
            · rename_i hi px ehi epx
              refine hu σ H2 _ φ F2 ρ2 st2 _ h2 hs2 qh ⟨hi, ehi, fun F3 ρ3 H3 g3 h3 => ?_⟩
              have p3 := p2.g g3
              have r3 := RL.mono (g2.trans g3).sub (g2.trans g3).pre _ _ r1
              have hk := peek_ok h3 r3 epx
              cases px <;> simp only [doSlc, okP, Option.some.injEq, reduceCtorEq] at e1
              case lst xs =>
                subst e1
                obtain ⟨a, vs, ea, eb, ec⟩ := hk
                refine .inl ⟨a, vs, ea, .inl (.inl eb), fun b nb => p3.made h3 nb ?_⟩
                simp only [RP]
                exact ⟨b, _, rfl, upd_same, RPs.mono (sub_upd (h3.fresh nb)) _ _ (cutV_ok ec lo hi)⟩
              case tup xs =>
                subst e1
                simp only [PK, RP] at hk
                obtain ⟨a, vs, ea, eb, ec⟩ := hk
                refine .inr (.inl ⟨a, vs, ea, .inl (.inl (h3.sub _ _ eb)), fun hw => ?_, fun _ b nb => p3.made h3 nb ?_⟩)
                · subst ea
                  have ew : cut xs lo hi = xs := by
                    rw [← ec.length] at hw
                    have ix : ∀ (n d : Nat) (o : Option Int), HT.sIx n d o = sIx n d o := fun n d o => by cases o <;> rfl
                    rw [ix, ix] at hw
                    unfold cut
                    rw [hw.1, hw.2]
                    simp
                  exact p3.tree h3 (by rw [ew]; simp only [RP]; exact ⟨a, vs, rfl, eb, ec⟩)
                · simp only [RP]
                  exact ⟨b, _, rfl, upd_same, RPs.mono (sub_upd (h3.fresh nb)) _ _ (cutV_ok ec lo hi)⟩
              case str x =>
                split at e1
                · rename_i hp
                  split at hp
                  · rename_i hc
                    simp only [Option.some.injEq] at hp e1
                    subst hp e1
                    obtain ⟨k1, k2⟩ := hk.str
                    refine .inr (.inr ⟨_, k1, by rw [mkS_len, line_eq]; exact hc, ?_⟩)
                    rw [cutS_ok]
                    exact p3.tree h3 (by simp only [RP, true_and]; exact okS_cut k2 lo hi)
                  · cases hp
                · cases e1
            · cases e1
      · cases e1
theorem rd_slcL {ta : TE} {tl th : TO} {fa fl fh : Slots → Store → Option ER} {l h : Bool} (ha : RdE M X.K W ta fa) (hl : RdO M X.K W tl l fl) (hu : RdO M X.K W th h fh) :
    RdE M X.K W (tSl (rSlW X.K) ta tl th) fun φ st => R.bind (fa φ st) fun x st => R.bind (fl φ st) fun lv st => match optL l lv with
      | some lo => R.bind (fh φ st) fun hv st => match optL h hv, peek st x with
        | some hi, some (.lst ps) => some (.ok (.ref st.length) (st ++ [.lst true ((cut ps lo hi).map .pv)]))
        | _, _ => none
      | none => none := by
  intro σ H Q φ F ρ st r hh hs e p
  refine ha.bind hh hs e p fun x st1 F1 ρ1 H1 v e1 g1 h1 r1 p1 => ?_
  have hs1 := hs.g g1
  cases ql : fl φ st1 with
  | none => rw [ql] at e1; cases e1
  | some rl =>
    rw [ql] at e1
    cases rl with
    | ex y st2 =>
      have e' : r = .ex y st2 := (Option.some.inj e1).symm
      subst e'
      exact hl σ H1 _ φ F1 ρ1 st1 _ h1 hs1 ql p1
    | ok y st2 =>
      simp only [R.bind] at e1
      split at e1
      · rename_i lo elo
        refine hl σ H1 _ φ F1 ρ1 st1 _ h1 hs1 ql ⟨lo, elo, fun F2 ρ2 H2 g2 h2 => ?_⟩
        have hs2 := hs1.g g2
        have p2 := p1.g g2
        cases qh : fh φ st2 with
        | none => rw [qh] at e1; cases e1
        | some rh =>
          rw [qh] at e1
          cases rh with
          | ex z st3 =>
            have e' : r = .ex z st3 := (Option.some.inj e1).symm
            subst e'
            exact hu σ H2 _ φ F2 ρ2 st2 _ h2 hs2 qh p2
          | ok z st3 =>
            simp only at e1
            split at e1
            · rename_i hi ps ehi epx
              refine hu σ H2 _ φ F2 ρ2 st2 _ h2 hs2 qh ⟨hi, ehi, fun F3 ρ3 H3 g3 h3 => ?_⟩
              have p3 := p2.g g3
              have r3 := RL.mono (g2.trans g3).sub (g2.trans g3).pre _ _ r1
              have hk := peek_ok h3 r3 epx
              simp only [Option.some.injEq] at e1
              subst e1
              obtain ⟨a, vs, ea, eb, ec⟩ := hk
              refine .inl ⟨a, vs, ea, .inl (.inl eb), fun b nb => ?_⟩
              obtain ⟨g4, h4⟩ := h3.cellN nb (o := .lst (cutV vs lo hi)) (c := .lst true ((cut ps lo hi).map .pv)) ⟨cutV vs lo hi, upd_same, RLs_pv.mpr (cutV_ok ec lo hi), fun _ => h3.fresh nb, fun z => Bool.noConfusion z⟩
              refine p3 _ _ _ _ g4 (by simpa using h4) ?_
              simp only [RL]
              exact ⟨b, rfl, by rw [← h3.len, List.getElem?_append_right (Nat.le_refl _)]; simp⟩
            · cases e1
      · cases e1
end
end Z
end

section
/-! ZO: the theorem for expressions. -/
namespace Z
open PySem PySem.Spec PyProof.Rows L2
section
variable {X : Cx} {g : SC} {M : Nm} {S : Sem} {W : WX} {k : Nat}
theorem rd_not {t : TE} {f : Slots → Store → Option ER} (h : RdE M X.K W t f) : RdE M X.K W (tNotT X.K t) fun φ st => R.bind (f φ st) fun x st => match truL x st with
    | some b => some (.ok (.pv (.bl (!b))) st)
    | none => none := by
  intro σ H Q φ F ρ st r hh hs e p
  refine h.bind hh hs e p fun x st1 F1 ρ1 H1 v e1 g1 h1 r1 p1 => ?_
  split at e1
  · rename_i b hb
    simp only [Option.some.injEq] at e1
    subst e1
    exact ⟨b, rd_truL h1 r1 hb, p1.tree h1 (by simp only [RP])⟩
  · cases e1
theorem rd_boolop2 {c : Bool} {ta tb : TE} {fa fb : Slots → Store → Option ER} (ha : RdE M X.K W ta fa) (hb : RdE M X.K W tb fb) :
    RdE M X.K W (if c then tAndT X.K ta tb else tOrT X.K ta tb) fun φ st => R.bind (fa φ st) fun v st => match truL v st with
      | some b => if b == c then fb φ st else some (.ok v st)
      | none => none := by
  intro σ H Q φ F ρ st r hh hs e p
  cases c with
  | true =>
    show tAndT X.K ta tb σ H Q
    refine ha.bind hh hs e p fun x st1 F1 ρ1 H1 v e1 g1 h1 r1 p1 => ?_
    split at e1
    · rename_i b hb'
      refine ⟨b, rd_truL h1 r1 hb', ?_⟩
      cases b with
      | true =>
        rw [if_pos rfl]
        simp only [beq_self_eq_true, if_true] at e1
        exact hb σ H1 Q φ F1 ρ1 st1 r h1 (hs.g g1) e1 p1
      | false =>
        rw [if_neg Bool.false_ne_true]
        simp only [show (false == true) = false by rfl, Bool.false_eq_true, if_false, Option.some.injEq] at e1
        subst e1
        exact p1.here h1 r1
    · cases e1
  | false =>
    show tOrT X.K ta tb σ H Q
    refine ha.bind hh hs e p fun x st1 F1 ρ1 H1 v e1 g1 h1 r1 p1 => ?_
    split at e1
    · rename_i b hb'
      refine ⟨b, rd_truL h1 r1 hb', ?_⟩
      cases b with
      | true =>
        rw [if_pos rfl]
        simp only [show (true == false) = false by rfl, Bool.false_eq_true, if_false, Option.some.injEq] at e1
        subst e1
        exact p1.here h1 r1
      | false =>
        rw [if_neg Bool.false_ne_true]
        simp only [beq_self_eq_true, if_true] at e1
        exact hb σ H1 Q φ F1 ρ1 st1 r h1 (hs.g g1) e1 p1
    · cases e1
theorem rd_boolopT2 {c : Bool} {ta tb : TT} {fa fb : Slots → Store → Option ET} (ha : RdT M X.K W ta fa) (hb : RdT M X.K W tb fb) :
    RdT M X.K W (if c then tAnd ta tb else tOr ta tb) fun φ st => T.bt (fa φ st) fun b st => if b == c then fb φ st else some (.ok b st) := by
  intro σ H Q φ F ρ st r hh hs e p
  cases c with
  | true =>
    show tAnd ta tb σ H Q
    refine ha.bindT hh hs e p fun b st1 F1 ρ1 H1 e1 g1 h1 p1 => ?_
    cases b with
    | true =>
      rw [if_pos rfl]
      simp only [beq_self_eq_true, if_true] at e1
      exact hb σ H1 Q φ F1 ρ1 st1 r h1 (hs.g g1) e1 p1
    | false =>
      rw [if_neg Bool.false_ne_true]
      simp only [show (false == true) = false by rfl, Bool.false_eq_true, if_false, Option.some.injEq] at e1
      subst e1
      exact p1 F1 ρ1 H1 (G.refl _ _ _) h1
  | false =>
    show tOr ta tb σ H Q
    refine ha.bindT hh hs e p fun b st1 F1 ρ1 H1 e1 g1 h1 p1 => ?_
    cases b with
    | true =>
      rw [if_pos rfl]
      simp only [show (true == false) = false by rfl, Bool.false_eq_true, if_false, Option.some.injEq] at e1
      subst e1
      exact p1 F1 ρ1 H1 (G.refl _ _ _) h1
    | false =>
      rw [if_neg Bool.false_ne_true]
      simp only [beq_self_eq_true, if_true] at e1
      exact hb σ H1 Q φ F1 ρ1 st1 r h1 (hs.g g1) e1 p1
/-! ### isinstance -/
def tyS : Ty → String
  | .int => "int" | .bool => "bool" | .str => "str" | .list => "list" | .tuple => "tuple"
theorem kit_non : ∀ t : Ty, kitB "NoneType" (tyS t) = some false
  | .int => by decide +kernel
  | .bool => by decide +kernel
  | .str => by decide +kernel
  | .list => by decide +kernel
  | .tuple => by decide +kernel
theorem kit_bool : ∀ t : Ty, kitB "bool" (tyS t) = some (t == .bool || t == .int)
  | .int => by decide +kernel
  | .bool => by decide +kernel
  | .str => by decide +kernel
  | .list => by decide +kernel
  | .tuple => by decide +kernel
theorem kit_int : ∀ t : Ty, kitB "int" (tyS t) = some (t == .int)
  | .int => by decide +kernel
  | .bool => by decide +kernel
  | .str => by decide +kernel
  | .list => by decide +kernel
  | .tuple => by decide +kernel
theorem kit_str : ∀ t : Ty, kitB "str" (tyS t) = some (t == .str)
  | .int => by decide +kernel
  | .bool => by decide +kernel
  | .str => by decide +kernel
  | .list => by decide +kernel
  | .tuple => by decide +kernel
theorem kit_list : ∀ t : Ty, kitB "list" (tyS t) = some (t == .list)
  | .int => by decide +kernel
  | .bool => by decide +kernel
  | .str => by decide +kernel
  | .list => by decide +kernel
  | .tuple => by decide +kernel
theorem kit_tuple : ∀ t : Ty, kitB "tuple" (tyS t) = some (t == .tuple)
  | .int => by decide +kernel
  | .bool => by decide +kernel
  | .str => by decide +kernel
  | .list => by decide +kernel
  | .tuple => by decide +kernel
theorem ty_ok {K : PySem.W.Frag} {F H : Hp} (s : Sub F H) {t : Ty} {p : PV} {v : V} {b : Bool} (h : PK K F H p v) (e : isTy t p = some b) : ∃ c : String, TyX K H v (.type c) ∧ kitB c (tyS t) = some b := by
  cases p <;> simp only [isTy, Option.some.injEq, reduceCtorEq] at e
  case non => subst e; simp only [PK, RP] at h; subst h; exact ⟨"NoneType", .base .non, kit_non t⟩
  case bl c => subst e; simp only [PK, RP] at h; subst h; exact ⟨"bool", .base (.bl _), kit_bool t⟩
  case int i => subst e; rw [h.int]; exact ⟨"int", .base (.int _), kit_int t⟩
  case str x => subst e; rw [h.str.1]; exact ⟨"str", .base (.str _), kit_str t⟩
  case lst xs =>
    subst e
    obtain ⟨a, vs, e1, e2, e3⟩ := h
    subst e1
    exact ⟨"list", .base (.lst e2), kit_list t⟩
  case tup xs =>
    subst e
    simp only [PK, RP] at h
    obtain ⟨a, vs, e1, e2, e3⟩ := h
    subst e1
    exact ⟨"tuple", .base (.tup (s _ _ e2)), kit_tuple t⟩
theorem ty_boot : ∀ t : Ty, bootBuiltins (tyName t) = some (.type (tyS t))
  | .int => by decide +kernel
  | .bool => by decide +kernel
  | .str => by decide +kernel
  | .list => by decide +kernel
  | .tuple => by decide +kernel
theorem rd_isi {t : TE} {f : Slots → Store → Option ER} {ty : Ty} (h : RdE M X.K W t f) : RdE M X.K W (tCB (rIsi X.K) (tCons t (tCons (tC (.ty (tyS ty))) tNil))) fun φ st => R.bind (f φ st) fun x st => match peek st x with
    | some x => (isTy ty x).map fun b => .ok (.pv (.bl b)) st
    | none => none := by
  intro σ H Q φ F ρ st r hh hs e p
  refine h.bind hh hs e p fun x st1 F1 ρ1 H1 v e1 g1 h1 r1 p1 => ?_
  split at e1
  · rename_i q hq
    simp only [Option.map_eq_some_iff] at e1
    obtain ⟨b, e2, e3⟩ := e1
    subst e3
    obtain ⟨c, h2, h3⟩ := ty_ok h1.sub (peek_ok h1 r1 hq) e2
    exact ⟨v, .ty (tyS ty), .type c, .type (tyS ty), b, rfl, .ty _, h2, kit_ty h3, p1.tree h1 (by simp only [RP])⟩
  · cases e1
theorem base_plain {o : Expr} {m : Str} {env : Env} (h : (match o with
      | .Call _ [] _ _ => false
      | _ => true) = true) : attributeBase o m env (eval o env) = eval o env := by
  unfold attributeBase
  cases o <;> try rfl
  rename_i f args kws pos
  cases args with
  | nil => cases h
  | cons a as => cases f <;> rfl
theorem base_plainO {o : Expr} {m : Str} {env : Env} (h : plainO o = true) : attributeBase o m env (eval o env) = eval o env := by
  unfold attributeBase
  cases o <;> try rfl
  rename_i f args kws pos
  cases args with
  | cons a as => cases f <;> rfl
  | nil =>
    cases f <;> try rfl
    rename_i x p
    cases kws with
    | cons _ _ => rfl
    | nil =>
      have hx : (x != ("super" : Str)) = true := h
      simp only [hx, Bool.true_or, if_true, bind_pure]
end
end Z
end

section
/-! ZNa: what an except suite asks of the error that it names. -/
namespace Z
open PySem PySem.Spec PyProof.Rows L2
section
variable {X : Cx} {g : SC} {M : Nm} {S : Sem} {W : WX} {k : Nat}
theorem look_names {K : PySem.W.Frag} {F : Hp} (inj : ∀ f f', M.fnm f = M.fnm f' → f = f') {f : Nat} {p : PV} : ∀ {fs : List (Nat × PV)} {vs : List V}, RPs K F (fs.map (·.2)) vs → look f fs = some p → ∃ v, ((fs.map fun f => M.fnm f.1).zip vs).lookup (M.fnm f) = some v ∧ RP K F p v
  | [], vs, _, e => by simp [look] at e
  | (f', q) :: fs, vs, r, e => by
    simp only [List.map_cons, RPs] at r
    obtain ⟨v, vs', e1, e2, e3⟩ := r
    subst e1
    simp only [List.map_cons, List.zip_cons_cons]
    unfold look at e
    by_cases hf : f' = f
    · rw [if_pos hf] at e
      cases e
      subst hf
      exact ⟨v, by simp [List.lookup], e2⟩
    · rw [if_neg hf] at e
      obtain ⟨w, h1, h2⟩ := look_names inj e3 e
      refine ⟨w, ?_, h2⟩
      have hn : (M.fnm f == M.fnm f') = false := by
        simp only [beq_eq_false_iff_ne]
        exact fun z => hf (inj _ _ z).symm
      simp only [List.lookup, hn]
      exact h1
/-- the error in its slot -/
theorem cur_at (C : Cok X g M S W k) {i : Nat} (hx : g.exn = some i) : ∃ (X0 : Cx) (a : Addr) (oe : Obj) (cls : Value) (d : Option Addr) (pn : List (Addr × Obj)), X = X0.suite a ((a, oe) :: pn) ∧ M.cur = some (i, a, cls, d) ∧ Zc cls d oe ∧ ∃ vs, oe.data = .fields vs := by
  have h := C.cur
  rw [hx] at h
  exact h
theorem in_slot {F : Hp} {ρ : List Addr} {σ : L2.St} {φ : Slots} {K : PySem.W.Frag} {i : Nat} {a : Addr} {cls : Value} {d : Option Addr} {e : Ex} (hm : M.cur = some (i, a, cls, d)) (hs : SL M K F ρ σ φ) (h : φ[i]? = some (some (.exn e))) : σ[i]? = some (some (.ref a)) ∧ RF M K F e cls d := by
  obtain ⟨v, h1, a', cls', d', h2, h3, h4⟩ := hs.2 i _ h
  rw [hm] at h2
  cases h2
  rw [h3] at h1
  exact ⟨h1, h4⟩
theorem se_xfld (C : Cok X g M S W k) {i f : Nat} {x n : Str} {p pos : Pos} (hx : g.exn = some i) (hN : g.N[i]? = some x) (hv : vis? g x = true) (hf : g.T.fnames[f]? = some n) : SE X M S W (.xfld i f) (.Attribute (.Name x p) n pos) := by
  obtain ⟨X0, a, oe, cls, d, pn, hX, hm, hz, hd⟩ := cur_at C hx
  obtain ⟨v1, v2, v3⟩ := C.vis hv
  have hn := C.fname f n hf
  by_cases hc : ∃ (c : Nat) (ei : EI), g.T.errs[c]? = some ei ∧ cls = .ref (M.ead c) ∧ ∃ q ∈ ei.fl, q.1 = f
  · obtain ⟨c, ei, h1, h2, q, hq1, hq2⟩ := hc
    have E := C.errs c ei h1
    have hno := E.no q hq1
    rw [hq2, hn] at hno
    have pv : PE X (.Name x p) (tVar i) := pe_var (by rw [C.N]; exact hN) v1 v2 v3
    have xf := E.xf
    refine ⟨tXf a cls d (M.ead c) n (tVar i), ?_, ?_⟩
    · subst hX
      exact pe_xf (X := X0) xf hno hz hd pv rfl
    · intro σ H Q φ F ρ st r hh hs e post
      simp only [evE] at e
      split at e
      · rename_i ex hex
        split at e
        · rename_i nf hnf
          split at e
          · cases ql : look f ex.fs with
            | none => simp [ql, okP] at e
            | some pv =>
              simp only [ql, okP, Option.some.injEq] at e
              subst e
              obtain ⟨s1, r1, r2⟩ := in_slot hm hs hex
              rcases r2 with ⟨z, _⟩ | ⟨dd, vs, e1, e2, e3⟩
              · rw [z] at ql; simp [look] at ql
              · obtain ⟨v, l1, l2⟩ := look_names C.finj e3 ql
                rw [hn] at l1
                exact ⟨_, s1, rfl, h2, dd, _, v, e1, hh.sub _ _ e2, l1, post.tree hh l2⟩
          · cases e
        · cases e
      · cases e
  · refine ⟨fun _ _ _ => False, ⟨fun _ _ _ _ _ _ z => z.elim⟩, ?_⟩
    intro σ H Q φ F ρ st r hh hs e post
    simp only [evE] at e
    split at e
    · rename_i ex hex
      split at e
      · rename_i nf hnf
        split at e
        · rename_i ha
          obtain ⟨s1, r1, r2⟩ := in_slot hm hs hex
          obtain ⟨ei, h1⟩ := C.xerr ex.cls (by rw [hnf]; simp)
          have E := C.errs _ _ h1
          have hxin := E.xin
          rw [hnf] at hxin
          cases hxin
          obtain ⟨q, hq1, hq2⟩ := List.any_eq_true.mp ha
          exact hc ⟨ex.cls, ei, h1, r1, q, hq1, by simpa using hq2⟩
        · cases e
      · cases e
    · cases e
theorem se_xisi (C : Cok X g M S W k) {i c' : Nat} {x cn : Str} {ei' : EI} {p p1 p2 pos : Pos} (hx : g.exn = some i) (hN : g.N[i]? = some x) (hv : vis? g x = true) (hg : gl? g ("isinstance" : Str) = true) (hc' : gl? g cn = true) (he' : g.T.errs[c']? = some ei') (hn' : ei'.name = cn) :
    SE X M S W (.xisi i c') (.Call (.Name "isinstance" p) [.Name x p1, .Name cn p2] [] pos) := by
  obtain ⟨X0, a, oe, cls, d, pn, hX, hm, hz, hd⟩ := cur_at C hx
  obtain ⟨v1, v2, v3⟩ := C.vis hv
  obtain ⟨g1, g2⟩ := C.gl hg
  obtain ⟨g3, g4⟩ := C.gl hc'
  have E' := C.errs c' ei' he'
  by_cases hc : ∃ (c : Nat) (ei : EI), g.T.errs[c]? = some ei ∧ cls = .ref (M.ead c)
  · obtain ⟨c, ei, h1, h2⟩ := hc
    have E := C.errs c ei h1
    have pv : PE X (.Name x p1) (tVar i) := pe_var (by rw [C.N]; exact hN) v1 v2 v3
    have pc : PE X (.Name cn p2) (tC (.ref (M.ead c'))) := pe_glob g3 (by rw [← hn']; exact E'.adr) rfl g4
    have ec := E.ec
    have bis := C.bis
    refine ⟨tCB (rIsX X.K (M.ead c) a d) (tCons (tVar i) (tCons (tC (.ref (M.ead c'))) tNil)), ?_, ?_⟩
    · subst hX
      rw [h2] at hz
      exact pe_callB (call_isX ec hz hd) g1 bis (by decide +kernel) (pa_cons pv (pa_cons pc pa_nil)) (by decide) (by decide)
    · intro σ H Q φ F ρ st r hh hs e post
      simp only [evE] at e
      split at e
      · rename_i ex hex
        split at e
        · rename_i nf hnf
          simp only [Option.some.injEq] at e
          subst e
          obtain ⟨s1, r1, r2⟩ := in_slot hm hs hex
          obtain ⟨ei2, h3⟩ := C.xerr ex.cls (by rw [hnf]; simp)
          have E2 := C.errs _ _ h3
          have hk := (E2.sub c' ei' he').2
          have ea : M.ead ex.cls = M.ead c := by rw [r1] at h2; exact Value.ref.inj h2
          rw [ea] at hk
          refine ⟨_, s1, _, _, _, rfl, fun u hu => hu, ?_, hk, post.tree hh (by simp only [RP])⟩
          rcases r2 with ⟨_, z⟩ | ⟨dd, vs, e1, e2, _⟩
          · exact .inl z
          · exact .inr ⟨dd, _, e1, hh.sub _ _ e2⟩
        · cases e
      · cases e
  · refine ⟨fun _ _ _ => False, ⟨fun _ _ _ _ _ _ z => z.elim⟩, ?_⟩
    intro σ H Q φ F ρ st r hh hs e post
    simp only [evE] at e
    split at e
    · rename_i ex hex
      split at e
      · rename_i nf hnf
        obtain ⟨s1, r1, r2⟩ := in_slot hm hs hex
        obtain ⟨ei, h1⟩ := C.xerr ex.cls (by rw [hnf]; simp)
        exact hc ⟨ex.cls, ei, h1, r1⟩
      · cases e
    · cases e
end
end Z
end

section
/-! ZNb: instances. -/
namespace Z
open PySem PySem.Spec PyProof.Rows L2
section
theorem few_ok {es : List Expr} {env : Env} {cpos : Pos} (h : (es.all fun e => !isStar e) = true) (hl : es.length < 20) : ((backTo cpos (starEach es env)).all (fun x => !x.1) && (backToKw cpos (keywordEach [] env)).all (fun x => x.1.isSome)
      && decide (es.length + ([] : List Keyword).length + (if ([] : List Keyword).isEmpty then 0 else 1) < 30)) = true := by
  have h1 : (backTo cpos (starEach es env)).all (fun x => !x.1) = true := by
    have := star_plain (env := env) (pos := cpos) h
    rw [List.any_eq_false] at this
    rw [List.all_eq_true]
    intro x hx
    have h2 := this x hx
    simpa using h2
  rw [h1]
  simp only [Bool.true_and, Bool.and_eq_true, decide_eq_true_eq]
  exact ⟨rfl, by simp; omega⟩
end
section
variable {K : PySem.W.Frag} {F : Hp} {ρ : List Addr} {fnm : Nat → Str}
theorem look_zip (hi : ∀ f f', fnm f = fnm f' → f = f') {f : Nat} {x : LV} : ∀ {fs : List (Nat × LV)} {vs : List V}, RLs K F ρ (fs.map (·.2)) vs → look f fs = some x → ∃ v, ((fs.map fun q => fnm q.1).zip vs).lookup (fnm f) = some v ∧ RL K F ρ x v
  | [], _, _, e => by simp [look] at e
  | (g, y) :: fs, vs, r, e => by
    simp only [List.map_cons, RLs] at r
    obtain ⟨v, r', e1, e2, e3⟩ := r
    subst e1
    unfold look at e
    split at e
    · rename_i hg
      subst hg
      cases e
      exact ⟨v, by simp [List.lookup], e2⟩
    · rename_i hg
      obtain ⟨w, h1, h2⟩ := look_zip hi e3 e
      refine ⟨w, ?_, h2⟩
      have hb : (fnm f == fnm g) = false := by
        simp only [beq_eq_false_iff_ne]
        exact fun z => hg (hi _ _ z).symm
      simp only [List.map_cons, List.zip_cons_cons, List.lookup, hb]
      exact h1
theorem put_zip (hi : ∀ f f', fnm f = fnm f' → f = f') {f : Nat} {x : LV} {v : V} (rx : RL K F ρ x v) : ∀ {fs : List (Nat × LV)} {vs : List V}, RLs K F ρ (fs.map (·.2)) vs → ∃ vs', putF (fnm f) v ((fs.map fun q => fnm q.1).zip vs) = ((putFl f x fs).map fun q => fnm q.1).zip vs' ∧ RLs K F ρ ((putFl f x fs).map (·.2)) vs'
  | [], vs, r => by
    simp only [List.map_nil, RLs] at r
    subst r
    exact ⟨[v], rfl, by simp only [putFl, List.map_cons, List.map_nil, RLs]; exact ⟨v, [], rfl, rx, rfl⟩⟩
  | (g, y) :: fs, vs, r => by
    simp only [List.map_cons, RLs] at r
    obtain ⟨w, r', e1, e2, e3⟩ := r
    subst e1
    by_cases hg : g = f
    · subst hg
      refine ⟨v :: r', ?_, ?_⟩
      · simp only [List.map_cons, List.zip_cons_cons, putF, putFl, if_true]
      · simp only [putFl, if_true, List.map_cons, RLs]
        exact ⟨v, r', rfl, rx, e3⟩
    · obtain ⟨vs', h1, h2⟩ := put_zip hi rx e3
      refine ⟨w :: vs', ?_, ?_⟩
      · simp only [List.map_cons, List.zip_cons_cons, putF, putFl, if_neg hg]
        rw [if_neg (fun z => hg (hi _ _ z)), h1]
      · simp only [putFl, if_neg hg, List.map_cons, RLs]
        exact ⟨w, vs', rfl, e2, h2⟩
theorem zip_none {m : Str} : ∀ {fs : List (Nat × LV)} {vs : List V}, (∀ q ∈ fs, fnm q.1 ≠ m) → ((fs.map fun q => fnm q.1).zip vs).lookup m = none
  | [], _, _ => rfl
  | (g, y) :: fs, [], _ => rfl
  | (g, y) :: fs, v :: vs, h => by
    have hb : (m == fnm g) = false := by
      simp only [beq_eq_false_iff_ne]
      exact fun z => h (g, y) List.mem_cons_self z.symm
    simp only [List.map_cons, List.zip_cons_cons, List.lookup, hb]
    exact zip_none fun q hq => h q (List.mem_cons_of_mem _ hq)
end
section
variable {X : Cx} {g : SC} {M : Nm} {S : Sem} {W : WX} {k : Nat}
theorem ins_at {F H : Hp} {ρ : List Addr} {st : Store} {c nf : Nat} {x : LV} {v : V} (hh : HR' M X.K F ρ H st) (r : RL X.K F ρ x v) (h : isIns c nf x st = true) :
    ∃ n a fs dx vs, x = .ref n ∧ v = .ref a ∧ ρ[n]? = some a ∧ st[n]? = some (.ins c fs) ∧ (∀ q ∈ fs, q.1 < nf) ∧ H a = some (.ins (M.cad c) dx ((fs.map fun q => M.fnm q.1).zip vs)) ∧ RLs X.K F ρ (fs.map (·.2)) vs ∧ F a = none := by
  cases x <;> simp only [isIns, Bool.false_eq_true] at h
  rename_i n
  simp only [RL] at r
  obtain ⟨a, e1, e2⟩ := r
  obtain ⟨cc, e3, hc⟩ := hh.at e2
  rw [e3] at h
  cases cc <;> simp only [Bool.false_eq_true] at h
  rename_i D fs
  simp only [Bool.and_eq_true, beq_iff_eq, List.all_eq_true, decide_eq_true_eq] at h
  obtain ⟨h1, h2⟩ := h
  subst h1
  obtain ⟨dx, vs, h3, h4, h5⟩ := hc
  exact ⟨n, a, fs, dx, vs, rfl, e1, e2, e3, h2, h3, h4, h5⟩
theorem Cok.nfn (C : Cok X g M S W k) {q : Nat} (h : q < S.nf) {m : Str} (hm : g.T.fnames.contains m = false) : M.fnm q ≠ m := by
  have hl : q < g.T.fnames.length := Nat.lt_of_lt_of_le h C.nf
  have := C.fname q _ (List.getElem?_eq_getElem hl)
  rw [this]
  intro z
  have h2 : g.T.fnames.contains m = true := List.contains_iff_mem.mpr (by rw [← z]; exact List.getElem_mem hl)
  rw [hm] at h2; cases h2
theorem se_fld (C : Cok X g M S W k) {c f : Nat} {a : ME} {x : Expr} {n : Str} {pos : Pos} (h1 : (match x with
      | .Call _ [] _ _ => false
      | _ => true) = true) (h2 : g.T.fnames[f]? = some n) (h3 : (match g.T.cls[c]? with
      | some ci => ci.fields.contains f
      | none => false) = true) (ha : SE X M S W a x) : SE X M S W (.fld c a f) (.Attribute x n pos) := by
  obtain ⟨ta, a1, a2⟩ := ha
  refine ⟨_, pe_fld a1 (base_plain h1), ?_⟩
  split at h3
  · rename_i ci hci
    have CC := C.cls c ci hci
    have hn : M.fnm f = n := C.fname f n h2
    intro σ H Q φ F ρ st r hh hs e p
    simp only [evE] at e
    refine a2.bind hh hs e p fun y st1 F1 ρ1 H1 v e1 g1 h1 r1 p1 => ?_
    split at e1
    · rename_i hi
      obtain ⟨m, b, fs, dx, vs, ex, ev, er, es, hf, hH, hr, _⟩ := ins_at h1 r1 hi
      subst ex ev
      simp only [getF, es] at e1
      split at e1
      · rename_i z hz
        simp only [Option.some.injEq] at e1
        subst e1
        obtain ⟨u, l1, l2⟩ := look_zip C.finj hr hz
        rw [hn] at l1
        exact ⟨b, _, dx, _, u, rfl, hH, CC.cl, by rw [← hn]; exact CC.no f (by simpa using h3), l1, p1.here h1 l2⟩
      · cases e1
    · cases e1
  · cases h3
theorem se_mcall (C : Cok X g M S W k) {c f : Nat} {a : ME} {es : List ME} {o : Expr} {xs : List Expr} {n : Str} {apos cpos : Pos} (hot : g.hot = false) (hline : (apos.endLine == cpos.line) = true) (h1 : plainO o = true) (hl : es.length < 20) (h3 : (match g.T.cls[c]? with
      | some ci => ci.meths.contains (n, f, es.length + 1) && !g.T.fnames.contains n
      | none => false) = true) (ha : SE X M S W a o) (hs : SEs X M S W es xs) : SE X M S W (.mcall c f a es) (.Call (.Attribute o n apos) xs [] cpos) := by
  obtain ⟨ta, a1, a2⟩ := ha
  have st := hs.star
  have len := hs.len
  have few := few_ok (env := X.env) (cpos := cpos) st (by rw [← len]; exact hl)
  have ht := mtree (apos := apos) (base_plainO (m := n) (env := X.env) h1) few hline
  split at h3
  · rename_i ci hci
    simp only [Bool.and_eq_true, Bool.not_eq_true'] at h3
    obtain ⟨h3, hfn⟩ := h3
    have CC := C.cls c ci hci
    obtain ⟨b, fd, ps, Mt, F, hb⟩ := CC.meth n f _ (by simpa using h3)
    have main : ∀ {t : TA}, RdA M X.K W t (evEs S es) → RdE M X.K W (tMethG (M.cad c) n (spOf M X.K (S.cal f) (es.length + 1)) (fun σ cls d H => W cls d σ H) ta t) (evE S (.mcall c f a es)) := by
      intro t hA σ H Q φ F ρ st r hh hs e p
      simp only [evE] at e
      refine a2.bind hh hs e p fun y st1 F1 ρ1 H1 v e1 g1 h1 r1 p1 => ?_
      split at e1
      · rename_i hi
        obtain ⟨m, b, fs, dx, vs, ex, ev, er, es', hf, hH, hr, _⟩ := ins_at h1 r1 hi
        subst ev
        refine ⟨b, dx, _, rfl, hH, zip_none fun q hq => C.nfn (hf q hq) hfn, ?_⟩
        cases q : evEs S es φ st1 with
        | none => rw [q] at e1; cases e1
        | some rs =>
          rw [q] at e1
          cases rs with
          | ex z st2 =>
            have e' : r = .ex z st2 := (Option.some.inj e1).symm
            subst e'
            exact hA σ H1 _ φ F1 ρ1 st1 _ h1 (hs.g g1) q p1
          | ok zs st2 =>
            refine hA σ H1 _ φ F1 ρ1 st1 _ h1 (hs.g g1) q fun F2 ρ2 H2 us g2 h2 r2 => ?_
            exact rd_call (args := y :: zs) h2 (by simp only [RLs]; exact ⟨_, us, rfl, RL.mono g2.sub g2.pre _ _ r1, r2⟩) (by rw [List.length_cons, ← r2.length, evEs_len q]) e1 (p1.g g2)
      · cases e1
    cases xs with
    | nil =>
      have hes : es = [] := List.length_eq_zero_iff.mp len
      refine ⟨_, pe_methG0 a1 CC.cl Mt F (C.hr hot) (C.gd hot) hb (fun σ => L2N.passAt C.takes σ) ht, ?_⟩
      have hA : RdA M X.K W tNil (evEs S es) := by
        subst hes
        intro σ H Q φ F ρ st r hh hs e p
        simp only [evEs, Option.some.injEq] at e
        subst e
        exact p F ρ H [] (G.refl F ρ H) hh (by simp only [RLs])
      exact main hA
    | cons y ys =>
      obtain ⟨t, b1, b2⟩ := hs.pa
      simp only [List.all_cons, Bool.and_eq_true, Bool.not_eq_true'] at st
      exact ⟨_, pe_methG a1 CC.cl Mt F (C.hr hot) (C.gd hot) hb (fun σ => L2N.passAt C.takes σ) b1 (star_each st.1) (star_plain st.2) ht, main b2⟩
  · cases h3
theorem se_new (C : Cok X g M S W k) {c f : Nat} {es : List ME} {x : Str} {xs : List Expr} {p pos : Pos} (hot : g.hot = false) (hg : gl? g x = true) (h3 : (match g.T.cls[c]? with
      | some ci => decide (ci.name = x) && ci.meths.contains ("__init__", f, es.length + 1)
      | none => false) = true) (hs : SEs X M S W es xs) : SE X M S W (.new c f es) (.Call (.Name x p) xs [] pos) := by
  have st := hs.star
  have len := hs.len
  obtain ⟨g1, g2⟩ := C.gl hg
  split at h3
  · rename_i ci hci
    simp only [Bool.and_eq_true, decide_eq_true_eq] at h3
    obtain ⟨hn, h3⟩ := h3
    have CC := C.cls c ci hci
    obtain ⟨b, fd, ps, j, hj, Mt, F, hb⟩ := CC.make f _ (by simpa using h3)
    have hm := CC.adr
    rw [hn] at hm
    have room : Room (j + 1) X.A := (C.hr hot).mono hj
    have main : ∀ {t : TA}, RdA M X.K W t (evEs S es) → RdE M X.K W (tMakeG (M.cad c) (spOf M X.K (S.cal1 f) (es.length + 1)) (fun σ cls d H => W cls d σ H) t) (evE S (.new c f es)) := by
      intro t hA σ H Q φ F ρ st r hh hs e p
      simp only [evE] at e
      cases q : evEs S es φ st with
      | none => rw [q] at e; cases e
      | some rs =>
        rw [q] at e
        cases rs with
        | ex z st2 =>
          have e' : r = .ex z st2 := (Option.some.inj e).symm
          subst e'
          exact hA σ H _ φ F ρ st _ hh hs q p
        | ok zs st1 =>
          refine hA σ H _ φ F ρ st _ hh hs q fun F1 ρ1 H1 us g1 h1 r1 x dx nx nd ne => ?_
          have p1 := p.g g1
          have e' : S.make c f zs st1 = some r := e
          unfold Sem.make at e'
          refine ⟨by rw [List.length_cons, ← r1.length, evEs_len q], ?_⟩
          obtain ⟨ga, ha⟩ := h1.laid nd (.own x)
          have nx2 : (upd H1 dx (.own x)) x = none := by rw [upd_ne (Ne.symm ne)]; exact nx
          obtain ⟨gb, hb2⟩ := ha.cellN nx2 (o := .ins (M.cad c) dx []) (c := .ins c []) ⟨dx, [], upd_same, by simp only [List.map_nil, RLs], by have := h1.fresh nx; exact this⟩
          have gab := ga.trans gb
          have hlen : (ρ1 ++ [x]).length = st1.length + 1 := by rw [List.length_append, h1.len]; rfl
          have rargs : RLs X.K F1 (ρ1 ++ [x]) (.ref st1.length :: zs) (.ref x :: us) := by
            simp only [RLs, RL]
            exact ⟨_, us, rfl, ⟨x, rfl, by rw [← h1.len]; simp⟩, RLs.mono (Sub.refl F1) (Pre.snoc ρ1 x) _ _ r1⟩
          cases q0 : S.cal1 f (.ref st1.length :: zs) (st1 ++ [.ins c []]) with
          | none => rw [q0] at e'; cases e'
          | some r0 =>
            rw [q0] at e'
            refine ⟨F1, ρ1 ++ [x], _, _, r0, hb2, rargs, q0, ?_⟩
            cases r0 with
            | ex z st2 =>
              simp only [Option.some.injEq] at e'
              subst e'
              intro F' ρ' H' cls d g' h' rx
              obtain ⟨ρ2, g2, h2, _⟩ := trunc_ok (ok := true) h1.len (gab.trans g') h'
              exact p1 F' ρ2 H' cls d g2 h2 rx
            | ok z st2 =>
              cases z with
              | pv pz =>
                cases pz with
                | non =>
                  simp only [Option.some.injEq] at e'
                  subst e'
                  intro F' ρ' H' v g' h' rv
                  simp only [RL, RP] at rv
                  refine ⟨rv, ?_⟩
                  obtain ⟨ρ2, g2, h2, _⟩ := trunc_ok (ok := true) hlen g' h'
                  refine p1 F' ρ2 H' (.ref x) (gab.trans g2) h2 ?_
                  simp only [RL]
                  exact ⟨x, rfl, g2.pre _ _ (by rw [← h1.len]; simp)⟩
                | _ => cases e'
              | _ => cases e'
    cases xs with
    | nil =>
      have hes : es = [] := List.length_eq_zero_iff.mp len
      refine ⟨_, pe_makeG0 Mt F room (C.gd hot) g1 hm hb (fun σ => L2N.passAt C.takes σ) g2, ?_⟩
      have hA : RdA M X.K W tNil (evEs S es) := by
        subst hes
        intro σ H Q φ F ρ st r hh hs e p
        simp only [evEs, Option.some.injEq] at e
        subst e
        exact p F ρ H [] (G.refl F ρ H) hh (by simp only [RLs])
      exact main hA
    | cons y ys =>
      obtain ⟨t, b1, b2⟩ := hs.pa
      simp only [List.all_cons, Bool.and_eq_true, Bool.not_eq_true'] at st
      exact ⟨_, pe_makeG Mt F room (C.gd hot) g1 hm hb (fun σ => L2N.passAt C.takes σ) b1 g2 (star_each st.1) (star_plain st.2), main b2⟩
  · cases h3
end
end Z
end

section
/-! ZOm: methods of built-in types. -/
namespace Z
open PySem PySem.Spec PyProof.Rows L2
section
variable {X : Cx} {g : SC} {M : Nm} {S : Sem} {W : WX} {k : Nat}
def bmT : BM → String
  | .append | .pop0 | .popAt | .extend | .insert | .index => "list"
  | .get2 => "dict"
  | .join | .sindex => "str"
def rGet2 : V → List V → Hp → VK → Prop := fun x vs H Q => ∃ a y d o, x = .ref a ∧ vs = [y, d] ∧ DGet H a y o ∧ Q (o.getD d) H
theorem mt_get2 (hu : room2 X) : MtR X "dict.get" rGet2 := by
  intro pins s σ H x ys u us Q I ru rus h
  obtain ⟨a, y, d, o, ex, exs, g, q⟩ := h
  subst ex exs
  obtain rfl : u = Value.ref a := ru
  obtain ⟨u1, u2, e, r1, r2⟩ := Vals.two rus
  subst e
  exact d_get2 (by have h1 : X.A.units + 600 < cLine := hu; omega) I g r1 r2 fun w' s3 I3 rw' => ⟨_, H, I3, rw', q⟩
def rIns : V → List V → Hp → VK → Prop := fun x vs H Q => ∃ (l : Addr) (xs : List V) (i : Int) (y : V), x = .ref l ∧ vs = [.int i, y] ∧ H l = some (.lst xs) ∧ xs.length < sizeLine ∧ 0 ≤ i ∧ i < 2 ^ 63 ∧
  Q .non (upd H l (.lst (xs.take i.toNat ++ [y] ++ xs.drop i.toNat)))
def rJoin (K : PySem.W.Frag) : V → List V → Hp → VK → Prop := fun x xs H Q => ∃ a p, ∃ ys : List Str, x = .str a ∧ xs = [.ref p] ∧ (SqL K H p (ys.map V.str) ∨ SqT K H p (ys.map V.str)) ∧
  (ys.map (·.length)).sum + ys.length * a.length ≤ 16777216 ∧ Q (.str (Txt.join a ys)) H
def rBM (K : PySem.W.Frag) : BM → V → List V → Hp → VK → Prop
  | .append => rAppend
  | .get2 => rGet2
  | .pop0 => rPop
  | .extend => rExtend
  | .insert => rIns
  | .index => rIndex K
  | .join => rJoin K
  | .popAt => rPopAt
  | .sindex => fun x xs H Q => ∃ (a b : Str) (i : Nat) (rest : List Nat), x = .str a ∧ xs = [.str b] ∧ Builtin.Str.occurrences a b 0 a.length 1 = i :: rest ∧ Q (.int (i : Nat)) H
theorem mtM_R {id : String} {r : V → List V → Hp → VK → Prop} (h : MtM X id r) : MtR X id r := h
/-- the facts of a method -/
structure BmOk (X : Cx) (m : BM) (id : String) : Prop where
  pa : PlainAttrs (bmT m)
  slot : Slot (bmT m) (bmName m) id
  ty : typeOf (.builtin id) = pure (.type "method_descriptor")
  mt : MtR X id (rBM X.K m)
theorem bm_ok (hu : room2 X) : ∀ m : BM, ∃ id, BmOk X m id
  | .append => ⟨_, PySem.F.plainAttrs_list, PySem.F.slot_list_append, PySem.F.type_list_append, mtM_R mt_append⟩
  | .get2 => ⟨_, PySem.F.plainAttrs_dict, PySem.F.slot_dict_get, PySem.F.type_dict_get, mt_get2 hu⟩
  | .pop0 => ⟨_, PySem.F.plainAttrs_list, PySem.F.slot_list_pop, PySem.F.type_list_pop, mtM_R mt_pop⟩
  | .extend => ⟨_, PySem.F.plainAttrs_list, PySem.F.slot_list_extend, PySem.F.type_list_extend, mtM_R mt_extend⟩
  | .insert => ⟨_, PySem.F.plainAttrs_list, PySem.F.slot_list_insert, PySem.F.type_list_insert, mt_insert⟩
  | .index => ⟨_, PySem.F.plainAttrs_list, PySem.F.slot_list_index, PySem.F.type_list_index, mt_index⟩
  | .popAt => ⟨_, PySem.F.plainAttrs_list, PySem.F.slot_list_pop, PySem.F.type_list_pop, mtM_R mt_popAt⟩
  | .sindex => ⟨_, PySem.F.plainAttrs_str, PySem.F.slot_str_index, PySem.F.type_str_index, mt_sindex⟩
  | .join => ⟨_, PySem.F.plainAttrs_str, PySem.F.slot_str_join, PySem.F.type_str_join, mt_join⟩
/-! ### what they may be called on -/
theorem ty_bm {F H : Hp} {ρ : List Addr} {st : Store} {m : BM} {x : LV} {v : V} (hh : HR' M X.K F ρ H st) (r : RL X.K F ρ x v) (h : bmOk m x st = true) : tyV X.K (bmT m) v H := by
  have lists : ∀ a, (∃ vs, H a = some (.lst vs)) → tyV X.K "list" (.ref a) H := fun a ⟨vs, e⟩ => .inl ⟨rfl, vs, .inl (.inl e)⟩
  have dicts : ∀ a, ((∃ ks, H a = some (.dK ks)) ∨ ∃ ks, H a = some (.dT ks)) → tyV X.K "dict" (.ref a) H := fun a e => .inr (.inr (.inl ⟨rfl, e⟩))
  have cellL : ∀ n a, ρ[n]? = some a → (match st[n]? with
    | some (Cell.lst ..) => true
    | _ => false) = true → ∃ vs, H a = some (.lst vs) := fun n a ea hc => by
    obtain ⟨c, ec, hcr⟩ := hh.at ea
    rw [ec] at hc
    cases c <;> simp at hc
    obtain ⟨vs, h1, _⟩ := hcr
    exact ⟨vs, h1⟩
  cases x with
  | tup _ => cases m <;> simp [bmOk] at h
  | exn _ => cases m <;> simp [bmOk] at h
  | pv p =>
    cases m <;> cases p <;> simp only [bmOk, Bool.false_eq_true] at h
    · simp only [RL, RP] at r
      obtain ⟨a, ks, e1, e2, _⟩ := r
      subst e1
      exact dicts _ (.inl ⟨ks, hh.sub _ _ e2⟩)
    · simp only [RL, RP] at r
      obtain ⟨a, ks, e1, e2, _⟩ := r
      subst e1
      exact dicts _ (.inr ⟨ks, hh.sub _ _ e2⟩)
    · simp only [RL, RP] at r
      rw [r.1]
      exact rfl
    · simp only [RL, RP] at r
      obtain ⟨a, ks, e1, e2, _⟩ := r
      subst e1
      exact lists _ ⟨ks, hh.sub _ _ e2⟩
    · simp only [RL, RP] at r
      rw [r.1]
      exact rfl
  | ref n =>
    simp only [RL] at r
    obtain ⟨a, e1, e2⟩ := r
    subst e1
    cases m <;> simp only [bmOk, Bool.false_eq_true] at h
    case get2 =>
      obtain ⟨c, ec, hc⟩ := hh.at e2
      rw [ec] at h
      cases c <;> simp at h
      · obtain ⟨vs, h1, _⟩ := hc
        exact dicts _ (.inl ⟨vs, h1⟩)
      · obtain ⟨vs, h1, _⟩ := hc
        exact dicts _ (.inr ⟨vs, h1⟩)
    all_goals exact lists _ (cellL n a e2 h)
/-! ### what they do -/
theorem rd_get2 {F H : Hp} {ρ : List Addr} {st : Store} {σ : L2.St} {x kx d : LV} {v kv dv : V} {q pk : PV} {Q : VK} {r : ER} (hh : HR' M X.K F ρ H st) (hx : PK X.K F H q v) (hk : PK X.K F H pk kv)
    (e : (match some q, some pk, d with
      | some (.dk kvs), some k, .pv d => (match keyK k with
        | some k => some (.ok (.pv ((look k kvs).getD d)) st)
        | none => none)
      | some (.dt kvs), some k, .pv d => (match keyT k with
        | some k => some (.ok (.pv ((look k kvs).getD d)) st)
        | none => none)
      | _, _, _ => none) = some r) (p : PostE M X.K W σ F ρ H Q r) (hd : RL X.K F ρ d dv) : rGet2 v [kv, dv] H Q := by
  cases d with
  | ref _ => cases q <;> simp at e
  | tup _ => cases q <;> simp at e
  | exn _ => cases q <;> simp at e
  | pv d =>
    simp only [RL] at hd
    cases q <;> simp only [reduceCtorEq] at e
    · split at e
      · rename_i k hkk
        simp only [Option.some.injEq] at e
        subst e
        obtain ⟨a, ea, dd⟩ := dget_k hx hk hkk
        rcases dd with ⟨l, dd⟩ | ⟨z, u, l, dd, rz⟩
        · refine ⟨a, kv, dv, none, ea, rfl, dd, ?_⟩
          rw [l] at p
          exact p.tree hh hd
        · refine ⟨a, kv, dv, some u, ea, rfl, dd, ?_⟩
          rw [l] at p
          exact p.tree hh rz
      · cases e
    · split at e
      · rename_i k hkk
        simp only [Option.some.injEq] at e
        subst e
        obtain ⟨a, ea, dd⟩ := dget_t hh.sub hx hk hkk
        rcases dd with ⟨l, dd⟩ | ⟨z, u, l, dd, rz⟩
        · refine ⟨a, kv, dv, none, ea, rfl, dd, ?_⟩
          rw [l] at p
          exact p.tree hh hd
        · refine ⟨a, kv, dv, some u, ea, rfl, dd, ?_⟩
          rw [l] at p
          exact p.tree hh rz
      · cases e
theorem one_arg {F : Hp} {ρ : List Addr} {xs : List LV} {vs : List V} (rs : RLs X.K F ρ xs vs) {y : LV} (h : xs = [y]) : ∃ w, vs = [w] ∧ RL X.K F ρ y w := by
  subst h
  simp only [RLs] at rs
  obtain ⟨w, r', e1, ry, e2⟩ := rs
  subst e1 e2
  exact ⟨w, rfl, ry⟩
theorem live_at {F H : Hp} {ρ : List Addr} {st : Store} {n : Nat} {v : V} {zs : List LV} (hh : HR' M X.K F ρ H st) (rx : RL X.K F ρ (.ref n) v) (e : st[n]? = some (.lst true zs)) :
    ∃ a ws, v = .ref a ∧ ρ[n]? = some a ∧ H a = some (.lst ws) ∧ RLs X.K F ρ zs ws ∧ F a = none := by
  simp only [RL] at rx
  obtain ⟨a, ev, ea⟩ := rx
  obtain ⟨c, ec, hc⟩ := hh.at ea
  rw [ec] at e
  cases e
  obtain ⟨ws, h1, h2, h3, h4⟩ := hc
  exact ⟨a, ws, ev, ea, h1, h2, h3 rfl⟩
theorem RLs.dropLast {K : PySem.W.Frag} {F : Hp} {ρ : List Addr} : ∀ {xs : List LV} {vs : List V}, RLs K F ρ xs vs → RLs K F ρ xs.dropLast vs.dropLast
  | [], vs, h => by
    simp only [RLs] at h
    subst h
    simp [RLs]
  | [x], vs, h => by
    simp only [RLs] at h
    obtain ⟨v, r, e1, _, e3⟩ := h
    subst e1 e3
    simp [RLs]
  | x :: y :: xs, vs, h => by
    simp only [RLs] at h
    obtain ⟨v, r, e1, e2, v2, r2, e3, e4, e5⟩ := h
    subst e1 e3
    have ih := RLs.dropLast (xs := y :: xs) (vs := v2 :: r2) (by simp only [RLs]; exact ⟨v2, r2, rfl, e4, e5⟩)
    simp only [List.dropLast_cons₂, RLs]
    exact ⟨v, _, rfl, e2, ih⟩
theorem RLs.take {K : PySem.W.Frag} {F : Hp} {ρ : List Addr} : ∀ {xs : List LV} {vs : List V} (n : Nat), RLs K F ρ xs vs → RLs K F ρ (xs.take n) (vs.take n)
  | xs, _, 0, h => by simp [RLs]
  | [], vs, n + 1, h => by simp only [RLs] at h; subst h; simp [RLs]
  | x :: xs, vs, n + 1, h => by
    simp only [RLs] at h
    obtain ⟨v, r, e1, e2, e3⟩ := h
    subst e1
    simp only [List.take_succ_cons, RLs]
    exact ⟨v, _, rfl, e2, RLs.take n e3⟩
theorem RLs.drop {K : PySem.W.Frag} {F : Hp} {ρ : List Addr} : ∀ {xs : List LV} {vs : List V} (n : Nat), RLs K F ρ xs vs → RLs K F ρ (xs.drop n) (vs.drop n)
  | _, _, 0, h => h
  | [], vs, n + 1, h => by simp only [RLs] at h; subst h; simp [RLs]
  | x :: xs, vs, n + 1, h => by
    simp only [RLs] at h
    obtain ⟨v, r, e1, e2, e3⟩ := h
    subst e1
    simpa using RLs.drop n e3
theorem sq_ok {F H : Hp} {ρ : List Addr} {st : Store} {y : LV} {w : V} {ys : List LV} (hh : HR' M X.K F ρ H st) (ry : RL X.K F ρ y w) (e : sq st y = some ys) : ∃ b zs, w = .ref b ∧ H b = some (.lst zs) ∧ RLs X.K F ρ ys zs := by
  unfold sq at e
  split at e
  · rename_i n
    split at e
    · rename_i live zs hz
      simp only [Option.some.injEq] at e
      subst e
      simp only [RL] at ry
      obtain ⟨a, ev, ea⟩ := ry
      obtain ⟨c, ec, hc⟩ := hh.at ea
      rw [ec] at hz
      cases hz
      obtain ⟨ws, h1, h2, _⟩ := hc
      exact ⟨a, ws, ev, h1, h2⟩
    · cases e
  · rename_i ps
    simp only [Option.some.injEq] at e
    subst e
    simp only [RL, RP] at ry
    obtain ⟨a, ws, e1, e2, e3⟩ := ry
    exact ⟨a, ws, e1, hh.sub _ _ e2, RLs_pv.mpr e3⟩
  · cases e
theorem strs_vals {F : Hp} : ∀ {ps : List PV} {ss : List Sg} {vs : List V}, strsOf ps = some ss → RPs X.K F ps vs → vs = (ss.map mkS).map V.str ∧ ∀ s ∈ ss, okS s = true
  | [], ss, vs, e, h => by
    simp only [strsOf, Option.some.injEq] at e
    subst e
    simp only [RPs] at h
    exact ⟨h, fun _ q => by simp at q⟩
  | .str s :: ps, ss, vs, e, h => by
    simp only [strsOf, Option.map_eq_some_iff] at e
    obtain ⟨ms, e1, e2⟩ := e
    subst e2
    simp only [RPs, RP] at h
    obtain ⟨v, r, h1, h2, h3⟩ := h
    obtain ⟨k1, k2⟩ := strs_vals e1 h3
    subst h1 k1
    refine ⟨by rw [h2.1]; rfl, fun z hz => ?_⟩
    rcases List.mem_cons.mp hz with q | q
    · rw [q]; exact h2.2
    · exact k2 z q
  | .non :: _, _, _, e, _ => by simp [strsOf] at e
  | .bl _ :: _, _, _, e, _ => by simp [strsOf] at e
  | .int _ :: _, _, _, e, _ => by simp [strsOf] at e
  | .tup _ :: _, _, _, e, _ => by simp [strsOf] at e
  | .lst _ :: _, _, _, e, _ => by simp [strsOf] at e
  | .dk _ :: _, _, _, e, _ => by simp [strsOf] at e
  | .dt _ :: _, _, _, e, _ => by simp [strsOf] at e
  | .scr _ :: _, _, _, e, _ => by simp [strsOf] at e
theorem joinS_eq (a : Sg) : ∀ ss : List Sg, joinS a ss = TL.joinL a ss
  | [] => rfl
  | [_] => rfl
  | x :: y :: r => by
    unfold joinS TL.joinL
    rw [joinS_eq a (y :: r)]
theorem okS_app {a b : Sg} (h : okS a = true) (h' : okS b = true) : okS (a ++ b) = true := by
  unfold okS at *
  rw [List.all_append, h, h']; rfl
theorem okS_join {a : Sg} (h : okS a = true) : ∀ {ss : List Sg}, (∀ s ∈ ss, okS s = true) → okS (joinS a ss) = true
  | [], _ => rfl
  | [x], h' => h' x (by simp)
  | x :: y :: r, h' => by
    unfold joinS
    exact okS_app (h' x (by simp)) (okS_app h (okS_join h fun s hs => h' s (List.mem_cons_of_mem _ hs)))
theorem rd_app {F H : Hp} {ρ : List Addr} {st : Store} {σ : L2.St} {x y : LV} {v : V} {vs : List V} {Q : VK} {r : ER} (hh : HR' M X.K F ρ H st) (rx : RL X.K F ρ x v) (rs : RLs X.K F ρ [y] vs) (e : doBM .append x [y] st = some r) (p : PostE M X.K W σ F ρ H Q r) : rAppend v vs H Q := by
  obtain ⟨w, e1, ry⟩ := one_arg rs rfl
  subst e1
  simp only [doBM] at e
  split at e
  · split at e
    · rename_i n zs hz
      obtain ⟨a, ws, ev, ea, h1, h2, h3⟩ := live_at hh rx hz
      split at e
      · rename_i hl
        simp only [Option.some.injEq] at e
        subst e
        refine ⟨a, ws, w, ev, rfl, h1, by rw [← h2.length, line_eq]; exact hl, ?_⟩
        obtain ⟨g2, hh2⟩ := hh.write ea h3 (o := .lst (ws ++ [w])) (c := .lst true (zs ++ [y])) ⟨_, upd_same, h2.snoc ry, fun _ => h3, fun z => Bool.noConfusion z⟩
        exact p _ _ _ _ g2 hh2 (by simp only [RL, RP])
      · cases e
    · cases e
  · cases e
theorem rd_pop0 {F H : Hp} {ρ : List Addr} {st : Store} {σ : L2.St} {x : LV} {v : V} {vs : List V} {Q : VK} {r : ER} (hh : HR' M X.K F ρ H st) (rx : RL X.K F ρ x v) (rs : RLs X.K F ρ [] vs) (e : doBM .pop0 x [] st = some r) (p : PostE M X.K W σ F ρ H Q r) : rPop v vs H Q := by
  simp only [RLs] at rs
  subst rs
  simp only [doBM] at e
  split at e
  · split at e
    · rename_i n zs hz
      obtain ⟨a, ws, ev, ea, h1, h2, h3⟩ := live_at hh rx hz
      split at e
      · rename_i y hy
        simp only [Option.some.injEq] at e
        subst e
        rw [List.getLast?_eq_getElem?] at hy
        obtain ⟨w, k1, k2⟩ := h2.get hy
        refine ⟨a, ws, w, ev, rfl, h1, by rw [← h2.length]; exact k1, ?_⟩
        obtain ⟨g2, hh2⟩ := hh.write ea h3 (o := .lst ws.dropLast) (c := .lst true zs.dropLast) ⟨_, upd_same, RLs.dropLast h2, fun _ => h3, fun z => Bool.noConfusion z⟩
        exact p _ _ _ _ g2 hh2 k2
      · cases e
    · cases e
  · cases e
theorem rd_extend {F H : Hp} {ρ : List Addr} {st : Store} {σ : L2.St} {x y : LV} {v : V} {vs : List V} {Q : VK} {r : ER} (hh : HR' M X.K F ρ H st) (rx : RL X.K F ρ x v) (rs : RLs X.K F ρ [y] vs) (e : doBM .extend x [y] st = some r) (p : PostE M X.K W σ F ρ H Q r) : rExtend v vs H Q := by
  obtain ⟨w, e1, ry⟩ := one_arg rs rfl
  subst e1
  simp only [doBM] at e
  split at e
  · split at e
    · rename_i n q1 q2 zs ys hz hq
      obtain ⟨a, ws, ev, ea, h1, h2, h3⟩ := live_at hh rx hz
      obtain ⟨b, us, ew, k1, k2⟩ := sq_ok hh ry hq
      split at e
      · rename_i hl
        simp only [Option.some.injEq] at e
        subst e
        refine ⟨a, b, ws, us, ev, by rw [ew], h1, k1, by rw [← h2.length, ← k2.length, line_eq]; exact hl, ?_⟩
        obtain ⟨g2, hh2⟩ := hh.write ea h3 (o := .lst (ws ++ us)) (c := .lst true (zs ++ ys)) ⟨_, upd_same, h2.append k2, fun _ => h3, fun z => Bool.noConfusion z⟩
        exact p _ _ _ _ g2 hh2 (by simp only [RL, RP])
      · cases e
    · cases e
  · cases e
theorem rd_insert {F H : Hp} {ρ : List Addr} {st : Store} {σ : L2.St} {x y z : LV} {v : V} {vs : List V} {Q : VK} {r : ER} (hh : HR' M X.K F ρ H st) (rx : RL X.K F ρ x v) (rs : RLs X.K F ρ [y, z] vs) (e : doBM .insert x [y, z] st = some r) (p : PostE M X.K W σ F ρ H Q r) : rIns v vs H Q := by
  simp only [RLs] at rs
  obtain ⟨wy, r', e1, ry, wz, r'', e2, rz, e3⟩ := rs
  subst e1 e2 e3
  simp only [doBM] at e
  split at e
  · rename_i q1 q2 n i
    simp only [RL, RP] at ry
    split at e
    · rename_i q3 zs hz
      obtain ⟨a, ws, ev, ea, h1, h2, h3⟩ := live_at hh rx hz
      split at e
      · rename_i hl
        simp only [Option.some.injEq] at e
        subst e
        refine ⟨a, ws, i, wz, ev, by rw [ry], h1, by rw [← h2.length, line_eq]; exact hl.1, hl.2.1, hl.2.2, ?_⟩
        have hr : RLs X.K F ρ (zs.take i.toNat ++ [z] ++ zs.drop i.toNat) (ws.take i.toNat ++ [wz] ++ ws.drop i.toNat) := ((RLs.take _ h2).snoc rz).append (RLs.drop _ h2)
        obtain ⟨g2, hh2⟩ := hh.write ea h3 (o := .lst (ws.take i.toNat ++ [wz] ++ ws.drop i.toNat)) (c := .lst true (zs.take i.toNat ++ [z] ++ zs.drop i.toNat)) ⟨_, upd_same, hr, fun _ => h3, fun z => Bool.noConfusion z⟩
        exact p _ _ _ _ g2 hh2 (by simp only [RL, RP])
      · cases e
    · cases e
  · cases e
theorem rd_join {F H : Hp} {ρ : List Addr} {st : Store} {σ : L2.St} {x y : LV} {v : V} {vs : List V} {Q : VK} {r : ER} (hh : HR' M X.K F ρ H st) (rx : RL X.K F ρ x v) (rs : RLs X.K F ρ [y] vs) (e : doBM .join x [y] st = some r) (p : PostE M X.K W σ F ρ H Q r) : rJoin X.K v vs H Q := by
  obtain ⟨w, e1, ry⟩ := one_arg rs rfl
  subst e1
  simp only [doBM] at e
  split at e
  · rename_i q1 q2 a xs hxs
    simp only [RL, RP] at rx
    have hk := peek_ok hh ry hxs
    obtain ⟨b, ws, k1, k2, k3⟩ := hk
    split at e
    · rename_i ss hss
      split at e
      · rename_i hl
        simp only [Option.some.injEq] at e
        subst e
        obtain ⟨m1, m2⟩ := strs_vals hss k3
        refine ⟨mkS a, b, ss.map mkS, rx.1, by rw [k1], .inl (.inl (.inl (by rw [← m1]; exact k2))), ?_, ?_⟩
        · rw [List.map_map, List.length_map, mkS_len]
          have : ((fun x : Str => x.length) ∘ mkS) = fun s : Sg => s.length := by funext s; exact mkS_len s
          rw [this]
          exact hl
        · have ej : Txt.join (mkS a) (ss.map mkS) = mkS (joinS a ss) := by
            rw [joinS_eq]
            exact SX.join_S a ss
          rw [ej]
          exact p.tree hh (by simp only [RP, true_and]; exact okS_join rx.2 m2)
      · cases e
    · cases e
  · cases e
theorem rd_index {F H : Hp} {ρ : List Addr} {st : Store} {σ : L2.St} {x y : LV} {v : V} {vs : List V} {Q : VK} {r : ER} (hh : HR' M X.K F ρ H st) (rx : RL X.K F ρ x v) (rs : RLs X.K F ρ [y] vs) (e : doBM .index x [y] st = some r) (p : PostE M X.K W σ F ρ H Q r) : rIndex X.K v vs H Q := by
  obtain ⟨w, e1, ry⟩ := one_arg rs rfl
  subst e1
  simp only [doBM] at e
  split at e
  · rename_i xs z hxs hz
    obtain ⟨b, ws, k1, k2, k3⟩ := peek_ok hh rx hxs
    have hkz := peek_ok hh ry hz
    split at e
    · rename_i hf
      simp only [Bool.and_eq_true] at hf
      split at e
      · rename_i j hj
        simp only [Option.some.injEq] at e
        subst e
        obtain ⟨hj1, hj2, hj3⟩ := List.findIdx?_eq_some_iff_getElem.mp hj
        obtain ⟨u, u1, u2⟩ := k3.get (List.getElem?_eq_getElem hj1)
        refine ⟨b, ws, w, j, u, k1, rfl, .inl (.inl k2), flat_ok hf.1 hkz, flats_ok hf.2 k3, u1, ?_, fun m z' hm hz' => ?_, p.tree hh (by simp only [RP])⟩
        · rw [flat_eq (List.all_eq_true.mp hf.2 _ (List.getElem_mem hj1)) hf.1 (PK.of hh.sub u2) hkz]
          exact hj2
        · have hml : m < xs.length := Nat.lt_trans hm hj1
          obtain ⟨u', v1, v2⟩ := k3.get (List.getElem?_eq_getElem hml)
          rw [v1] at hz'
          cases hz'
          rw [flat_eq (List.all_eq_true.mp hf.2 _ (List.getElem_mem hml)) hf.1 (PK.of hh.sub v2) hkz]
          simpa using hj3 m hm
      · cases e
    · cases e
  · cases e
theorem RLs.erase {K : PySem.W.Frag} {F : Hp} {ρ : List Addr} {xs : List LV} {vs : List V} (h : RLs K F ρ xs vs) (j : Nat) : RLs K F ρ (xs.eraseIdx j) (vs.eraseIdx j) := by
  rw [List.eraseIdx_eq_take_drop_succ, List.eraseIdx_eq_take_drop_succ]
  exact (RLs.take j h).append (RLs.drop (j + 1) h)
theorem ixN_seq {n : Nat} {i : Int} {j : Nat} (h : ixN n i = some j) : PySem.seqIndex? i n = some j := by
  unfold ixN at h
  unfold PySem.seqIndex?
  split at h
  · rename_i h0
    split at h
    · rename_i h1
      cases h
      rw [if_neg (by omega : ¬ i < 0)]
      simp [h0, h1]
    · cases h
  · rename_i h0
    split at h
    · rename_i h1
      cases h
      rw [if_pos (by omega : i < 0)]
      have a : 0 ≤ i + (n : Int) := by omega
      have b : i + (n : Int) < n := by omega
      simp [a, b]
    · cases h
theorem rd_popAt {F H : Hp} {ρ : List Addr} {st : Store} {σ : L2.St} {x y : LV} {v : V} {vs : List V} {Q : VK} {r : ER} (hh : HR' M X.K F ρ H st) (rx : RL X.K F ρ x v) (rs : RLs X.K F ρ [y] vs) (e : doBM .popAt x [y] st = some r) (p : PostE M X.K W σ F ρ H Q r) : rPopAt v vs H Q := by
  obtain ⟨w, e1, ry⟩ := one_arg rs rfl
  subst e1
  simp only [doBM] at e
  split at e
  · rename_i n i
    simp only [RL, RP] at ry
    split at e
    · rename_i zs hz
      obtain ⟨a, ws, ev, ea, h1, h2, h3⟩ := live_at hh rx hz
      split at e
      · rename_i j hj
        split at e
        · rename_i y hy
          split at e
          · rename_i hl
            simp only [Option.some.injEq] at e
            subst e
            obtain ⟨w, k1, k2⟩ := h2.get hy
            have hi : -(zs.length : Int) ≤ i ∧ i < zs.length := by
              unfold ixN at hj
              split at hj
              · split at hj
                · omega
                · cases hj
              · split at hj
                · omega
                · cases hj
            have hz2 : line = 16777216 := rfl
            refine ⟨a, ws, i, j, w, ev, by rw [ry], h1, by omega, by omega, by rw [← h2.length]; exact ixN_seq hj, k1, ?_⟩
            obtain ⟨g2, hh2⟩ := hh.write ea h3 (o := .lst (ws.eraseIdx j)) (c := .lst true (zs.eraseIdx j)) ⟨_, upd_same, h2.erase j, fun _ => h3, fun z => Bool.noConfusion z⟩
            exact p _ _ _ _ g2 hh2 k2
          · cases e
        · cases e
      · cases e
    · cases e
  · cases e
theorem rd_sindex {F H : Hp} {ρ : List Addr} {st : Store} {σ : L2.St} {x y : LV} {v : V} {vs : List V} {Q : VK} {r : ER} (hh : HR' M X.K F ρ H st) (rx : RL X.K F ρ x v) (rs : RLs X.K F ρ [y] vs) (e : doBM .sindex x [y] st = some r) (p : PostE M X.K W σ F ρ H Q r) : rBM X.K .sindex v vs H Q := by
  obtain ⟨w, e1, ry⟩ := one_arg rs rfl
  subst e1
  simp only [doBM] at e
  split at e
  · rename_i a b
    simp only [RL, RP] at rx ry
    split at e
    · rename_i i rest ho
      simp only [Option.some.injEq] at e
      subst e
      exact ⟨mkS a, mkS b, i, rest, rx.1, by rw [ry.1], by rw [mkS_len]; exact ho, p.tree hh (by simp only [RP])⟩
    · cases e
  · cases e
theorem rd_bm {F H : Hp} {ρ : List Addr} {st : Store} {σ : L2.St} {m : BM} {x : LV} {v : V} {xs : List LV} {vs : List V} {Q : VK} {r : ER} (hh : HR' M X.K F ρ H st) (rx : RL X.K F ρ x v) (rs : RLs X.K F ρ xs vs) (e : doBM m x xs st = some r) (p : PostE M X.K W σ F ρ H Q r) :
    rBM X.K m v vs H Q := by
  cases m with
  | append =>
    match xs, rs, e with
    | [y], rs, e => exact rd_app hh rx rs e p
    | [], _, e => simp [doBM] at e
    | _ :: _ :: _, _, e => simp [doBM] at e
  | pop0 =>
    match xs, rs, e with
    | [], rs, e => exact rd_pop0 hh rx rs e p
    | _ :: _, _, e => simp [doBM] at e
  | popAt =>
    match xs, rs, e with
    | [y], rs, e => exact rd_popAt hh rx rs e p
    | [], _, e => simp [doBM] at e
    | _ :: _ :: _, _, e => simp [doBM] at e
  | sindex =>
    match xs, rs, e with
    | [y], rs, e => exact rd_sindex hh rx rs e p
    | [], _, e => simp [doBM] at e
    | _ :: _ :: _, _, e => simp [doBM] at e
  | extend =>
    match xs, rs, e with
    | [y], rs, e => exact rd_extend hh rx rs e p
    | [], _, e => simp [doBM] at e
    | _ :: _ :: _, _, e => simp [doBM] at e
  | insert =>
    match xs, rs, e with
    | [y, z], rs, e => exact rd_insert hh rx rs e p
    | [], _, e => simp [doBM] at e
    | [_], _, e => simp [doBM] at e
    | _ :: _ :: _ :: _, _, e => simp [doBM] at e
  | join =>
    match xs, rs, e with
    | [y], rs, e => exact rd_join hh rx rs e p
    | [], _, e => simp [doBM] at e
    | _ :: _ :: _, _, e => simp [doBM] at e
  | index =>
    match xs, rs, e with
    | [y], rs, e => exact rd_index hh rx rs e p
    | [], _, e => simp [doBM] at e
    | _ :: _ :: _, _, e => simp [doBM] at e
  | get2 =>
    match xs, rs, e with
    | [kx, d], rs, e =>
      simp only [RLs] at rs
      obtain ⟨kv, r', e1, rk, dv, r'', e2, rd, e3⟩ := rs
      subst e1 e2 e3
      simp only [doBM] at e
      cases qx : peek st x with
      | none => simp [qx] at e
      | some q =>
        cases qk : peek st kx with
        | none => rw [qx, qk] at e; cases q <;> simp at e
        | some pk =>
          rw [qx, qk] at e
          exact rd_get2 (x := x) (kx := kx) (q := q) (pk := pk) (d := d) hh (peek_ok hh rx qx) (peek_ok hh rk qk) e p rd
    | [], _, e => simp [doBM] at e
    | [_], _, e => simp [doBM] at e
    | _ :: _ :: _ :: _, _, e => simp [doBM] at e
theorem rd_bmC {m : BM} {to : TE} {t : TA} {fo : Slots → Store → Option ER} {fa : Slots → Store → Option ERs} (ho : RdE M X.K W to fo) (ha : RdA M X.K W t fa) :
    RdE M X.K W (tBM X.K (bmT m) (rBM X.K m) to t) fun φ st => R.bind (fo φ st) fun x st => if bmOk m x st then Rs.bind (fa φ st) fun vs st => doBM m x vs st else none := by
  intro σ H Q φ F ρ st r hh hs e p
  refine ho.bind hh hs e p fun x st1 F1 ρ1 H1 v e1 g1 h1 r1 p1 => ?_
  split at e1
  · rename_i hok
    refine ⟨ty_bm h1 r1 hok, ?_⟩
    refine ha.bind h1 (hs.g g1) e1 p1 fun xs st2 F2 ρ2 H2 vs e2 g2 h2 r2 p2 => ?_
    exact rd_bm h2 (RL.mono g2.sub g2.pre _ _ r1) r2 e2 p2
  · cases e1
theorem rd_bmC0 {m : BM} {to : TE} {fo : Slots → Store → Option ER} (ho : RdE M X.K W to fo) :
    RdE M X.K W (tBM0 X.K (bmT m) (rBM X.K m) to) fun φ st => R.bind (fo φ st) fun x st => if bmOk m x st then Rs.bind (some (.ok [] st)) fun vs st => doBM m x vs st else none := by
  intro σ H Q φ F ρ st r hh hs e p
  refine ho.bind hh hs e p fun x st1 F1 ρ1 H1 v e1 g1 h1 r1 p1 => ?_
  split at e1
  · rename_i hok
    exact ⟨ty_bm h1 r1 hok, rd_bm h1 r1 (by simp only [RLs]) e1 p1⟩
  · cases e1
theorem se_bm (hu : room2 X) {m : BM} {r : ME} {es : List ME} {o : Expr} {xs : List Expr} {apos cpos : Pos} (hl : es.length = bmAr m) (hline : (apos.endLine == cpos.line) = true) (hb : (match o with
      | .Call _ [] _ _ => false
      | _ => true) = true) (ho : SE X M S W r o) (hs : SEs X M S W es xs) : SE X M S W (.bm m r es) (.Call (.Attribute o (bmName m) apos) xs [] cpos) := by
  obtain ⟨to, o1, o2⟩ := ho
  obtain ⟨id, B⟩ := bm_ok hu m
  have st := hs.star
  have len := hs.len
  have few : xs.length < 20 := by
    rw [← len, hl]
    cases m <;> decide
  cases xs with
  | nil =>
    have hes : es = [] := List.length_eq_zero_iff.mp len
    subst hes
    refine ⟨_, pe_bm0 B.pa B.slot B.ty B.mt o1 (base_plain hb) hline, fun σ H Q φ F ρ st r hh hs e p => rd_bmC0 o2 σ H Q φ F ρ st r hh hs (by simpa only [evE, evEs] using e) p⟩
  | cons y ys =>
    obtain ⟨t, a1, a2⟩ := hs.pa
    have st' := st
    simp only [List.all_cons, Bool.and_eq_true, Bool.not_eq_true'] at st
    refine ⟨_, pe_bm B.pa B.slot B.ty B.mt o1 a1 (base_plain hb) (few_ok st' few) hline (star_each st.1) (star_plain st.2), fun σ H Q φ F ρ st r hh hs e p => rd_bmC o2 a2 σ H Q φ F ρ st r hh hs (by simpa only [evE] using e) p⟩
/-! ### a module's tuples of texts -/
theorem atI_map {α β : Type} (f : α → β) (xs : List α) (i : Int) : atI (xs.map f) i = (atI xs i).map f := by
  unfold atI
  rw [List.length_map]
  cases ixN xs.length i with
  | none => rfl
  | some j => simp
theorem rd_tabI {tb : TE} {f : Slots → Store → Option ER} {a : Addr} {ps : List Sg} (T : ∀ H, SqT X.K H a ((ps.map mkS).map V.str)) (ok : ∀ p ∈ ps, okS p = true) (hb : RdE M X.K W tb f) :
    RdE M X.K W (tOp (rIxZ X.K) (tC (.ref a)) tb) fun φ st => R.bind (f φ st) fun y st => match some ps, y with
      | some ps, .pv (.int i) => okP st ((atI ps i).map .str)
      | _, _ => none := by
  intro σ H Q φ F ρ st r hh hs e p
  show tb σ H _
  refine hb.bind hh hs e p fun y st1 F1 ρ1 H1 v e1 g1 h1 r1 p1 => ?_
  split at e1
  · rename_i qs i eq1
    cases eq1
    cases hi : atI ps i with
    | none => rw [hi] at e1; cases e1
    | some s =>
      rw [hi] at e1
      simp only [Option.map_some, okP, Option.some.injEq] at e1
      subst e1
      simp only [RL, RP] at r1
      refine .inr (.inl ⟨a, _, i, .str (mkS s), rfl, r1, T H1, by rw [atI_eq, atI_map, atI_map, hi]; rfl, p1.tree h1 ?_⟩)
      simp only [RP, true_and]
      exact ok s (atI_mem hi)
  · cases e1
def rTI (K : PySem.W.Frag) : V → List V → Hp → VK → Prop := fun x xs H Q => ∃ p, ∃ ys : List Str, ∃ z j, x = .ref p ∧ xs = [.str z] ∧ SqT K H p (ys.map V.str) ∧ ys[j]? = some z ∧ (∀ m, m < j → ys[m]? ≠ some z) ∧ Q (.int (j : Nat)) H
theorem mkS_inj' {x y : Sg} (h : mkS x = mkS y) : x = y := by
  have := congrArg (fun s : Str => s.cps.toList) h
  simpa [mkS] using this
theorem rd_tabX {t : TA} {fa : Slots → Store → Option ERs} {a : Addr} {ps : List Sg} (T : ∀ H, SqT X.K H a ((ps.map mkS).map V.str)) (ty : ∃ o, X.K.lookup a = some o ∧ o.cls = .type "tuple" ∧ o.dict = none) (ha : RdA M X.K W t fa) :
    RdE M X.K W (tBM X.K "tuple" (rTI X.K) (tC (.ref a)) t) fun φ st => Rs.bind (fa φ st) fun vs st => match some ps, vs with
      | some ps, [.pv (.str z)] => (ps.findIdx? fun x => decide (x = z)).map fun j => .ok (.pv (.int (j : Nat))) st
      | _, _ => none := by
  intro σ H Q φ F ρ st r hh hs e p
  refine ⟨.inr (.inl ⟨rfl, ty⟩), ?_⟩
  refine ha.bind hh hs e p fun xs st1 F1 ρ1 H1 vs e1 g1 h1 r1 p1 => ?_
  split at e1
  · rename_i qs z eq1
    cases eq1
    simp only [RLs, RL, RP] at r1
    obtain ⟨w, rest, ev, ⟨rw', okz⟩, er⟩ := r1
    subst er rw' ev
    simp only [Option.map_eq_some_iff] at e1
    obtain ⟨j, hj, e2⟩ := e1
    subst e2
    obtain ⟨hj1, hj2, hj3⟩ := List.findIdx?_eq_some_iff_getElem.mp hj
    simp only [decide_eq_true_eq] at hj2
    refine ⟨a, ps.map mkS, mkS z, j, rfl, rfl, T H1, ?_, fun m hm => ?_, p1.tree h1 (by simp only [RP])⟩
    · rw [List.getElem?_map, List.getElem?_eq_getElem hj1, hj2]; rfl
    · have h3 := hj3 m hm
      simp only [Bool.not_eq_true, decide_eq_false_iff_not] at h3
      rw [List.getElem?_map, List.getElem?_eq_getElem (by omega)]
      simp only [Option.map_some]
      intro hc
      exact h3 (mkS_inj' (Option.some.inj hc))
  · cases e1
end
end Z
end

section
/-! ZOd: written dicts, dict(d), lists joined that stay live. -/
namespace Z
open PySem PySem.Spec PyProof.Rows L2
section
variable {X : Cx} {g : SC} {M : Nm} {S : Sem} {W : WX} {k : Nat}
theorem merge_nodup : ∀ (zs acc : List (Key × V)), (zs.map (·.1)).Nodup → (∀ z ∈ zs, ∀ q ∈ acc, q.1 ≠ z.1) → mergeK acc zs = acc ++ zs
  | [], acc, _, _ => by simp [mergeK]
  | (k, v) :: zs, acc, h, h' => by
    have hp : putK acc k v = acc ++ [(k, v)] := by
      unfold putK
      rw [if_neg]
      intro hc
      obtain ⟨q, q1, q2⟩ := List.any_eq_true.mp hc
      exact h' (k, v) (by simp) q q1 (of_decide_eq_true q2)
    obtain ⟨h1, h2⟩ := List.nodup_cons.mp h
    have := merge_nodup zs (acc ++ [(k, v)]) h2 fun z hz q hq => by
      rcases List.mem_append.mp hq with a | a
      · exact h' z (by simp [hz]) q a
      · rw [List.mem_singleton.mp a]
        intro e
        exact h1 (List.mem_map.mpr ⟨z, hz, e.symm⟩)
    show mergeK (putK acc k v) zs = _
    rw [hp, this]
    simp
theorem keyC_ok {k : Ky} {c : Const} {n : Nat} {pos : Pos} (h : keyC k c = true) : PE X (.Constant c n pos) (tC (kV (kyS k))) ∧ okK k = true := by
  cases k <;> cases c <;> simp only [keyC, Bool.and_eq_true, decide_eq_true_eq, beq_iff_eq, Bool.false_eq_true] at h
  · subst h; exact ⟨pe_int, rfl⟩
  · obtain ⟨h1, h2⟩ := h
    subst h1
    exact ⟨pe_str, h2⟩
theorem kyS_inj' {a b : Ky} (h : kyS a = kyS b) : a = b := by
  cases a <;> cases b <;> simp only [kyS, Sum.inl.injEq, Sum.inr.injEq, reduceCtorEq] at h
  · rw [h]
  · rw [mkS_inj' h]
theorem dsel_pps {pos : Pos} : ∀ {kvs : List (Ky × PV)} {ks : List (Option Expr)} {vs : List Expr}, dselOk kvs ks vs = true → ∃ trs zs, PPs X pos ks vs trs ∧ RPk X.K (fun _ => none) kvs zs ∧ zs.map (·.1) = kvs.map (kyS ·.1) ∧ ks.length = kvs.length ∧ vs.length = kvs.length ∧ ks.all (·.isSome) = true ∧
    ∀ σ H (Q : List (V × V) → Hp → Prop), Q (zs.map fun kv => (kV kv.1, kv.2)) H → tPairs trs σ H Q
  | [], ks, vs, h => by
    simp only [dselOk, Bool.and_eq_true, List.isEmpty_iff] at h
    obtain ⟨h1, h2⟩ := h
    subst h1 h2
    exact ⟨[], [], pps_nil, by simp only [RPk], rfl, rfl, rfl, rfl, fun σ H Q q => q⟩
  | (k, p) :: r, ks, vs, h => by
    unfold dselOk at h
    split at h
    · rename_i c n1 p1 ks' d n2 p2 vs'
      simp only [Bool.and_eq_true] at h
      obtain ⟨⟨h1, h2⟩, h3⟩ := h
      obtain ⟨k1, k2⟩ := keyC_ok (X := X) (n := n1) (pos := p1) h1
      obtain ⟨v, v1, v2⟩ := lit_ok (X := X) (n := n2) (pos := p2) h2
      obtain ⟨trs, zs, a1, a2, a3, a4, a5, a6, a7⟩ := dsel_pps (pos := pos) h3
      refine ⟨_, (kyS k, v) :: zs, pps_cons k1 v1 a1, ?_, by simp [a3], by simp [a4], by simp [a5], by simpa using a6, fun σ H Q q => ?_⟩
      · simp only [RPk]
        exact ⟨v, zs, rfl, k2, v2, a2⟩
      · exact a7 σ H _ q
    · cases h
theorem se_dsel (hu : room2 X) {kvs : List (Ky × PV)} {ks : List (Option Expr)} {vs : List Expr} {y : Expr} {i : ME} {p1 pos : Pos} (h : dselOk kvs ks vs = true) (h15 : kvs.length ≤ 15) (h0 : kvs.isEmpty = false) (nd : (kvs.map (·.1)).Nodup) (hs : isSlice y = false) (hi : SE X M S W i y) :
    SE X M S W (.dsel kvs i) (.Subscript (.Dict ks vs p1) y pos) := by
  obtain ⟨t, i1, i2⟩ := hi
  obtain ⟨trs, zs, a1, a2, a3, a4, a5, a6, a7⟩ := dsel_pps (X := X) (pos := p1) h
  have hne : ks ≠ [] := by
    intro e
    subst e
    have : kvs = [] := List.length_eq_zero_iff.mp a4.symm
    subst this
    cases h0
  refine ⟨_, pe_dget (by have h1 : X.A.units + 600 < cLine := hu; omega) (pe_disp a1 a6 (by rw [a4, a5]) hne (by omega)) i1 (plainIx hs), ?_⟩
  intro σ H Q φ F ρ st r hh hsl e p
  show tDisp trs σ H _
  intro a na
  refine a7 σ _ _ ?_
  refine ⟨upd_same, zs, rfl, ?_, ?_⟩
  · have := congrArg List.length a3
    simp only [List.length_map] at this
    omega
  have ndz : (zs.map (·.1)).Nodup := by
    rw [a3, show (kvs.map fun x => kyS x.1) = (kvs.map (·.1)).map kyS by rw [List.map_map]; rfl]
    exact List.Pairwise.map kyS (fun x y hxy e => hxy (kyS_inj' e)) nd
  rw [merge_nodup zs [] ndz (fun z _ q hq => by simp at hq), List.nil_append]
  have hu2 : upd (upd H a (.dK [])) a (.dK zs) = upd H a (.dK zs) := by funext b; unfold upd; split <;> rfl
  rw [hu2]
  obtain ⟨g1, h1⟩ := hh.laid na (.dK zs)
  have nF := hh.fresh na
  have nρ := hh.notin na
  simp only [evE] at e
  refine i2.bind h1 (hsl.g g1) e (p.g g1) fun x st1 F1 ρ1 H1 v e1 g2 h2 r1 p1 => ?_
  have keep : H1 a = some (.dK zs) := g2.keep a _ upd_same nρ
  match x, e1, r1 with
  | .pv q, e1, r1 =>
    simp only at e1
    cases hk : keyK q with
    | none => simp [hk] at e1
    | some ky =>
      simp only [hk] at e1
      cases hl : look ky kvs with
      | none => simp [hl, okP] at e1
      | some z =>
        simp only [hl, okP, Option.some.injEq] at e1
        subst e1
        simp only [RL] at r1
        obtain ⟨k1, _⟩ := kV_of hk (PK.of h2.sub r1)
        rcases valV_k (K := X.K) (F := fun _ => none) ky a2 with ⟨l1, _⟩ | ⟨z', w, l1, l2, l3⟩
        · rw [hl] at l1; cases l1
        · rw [hl] at l1
          cases l1
          refine ⟨a, w, rfl, ?_, p1.tree h2 (RP.mono (fun _ _ q => by cases q) _ _ l3)⟩
          rw [k1, ← l2]
          exact DGet.k keep
  | .ref _, e1, _ => cases e1
  | .tup _, e1, _ => cases e1
  | .exn _, e1, _ => cases e1
theorem ix_kd {d : Addr} {es : Array DictEntry} {n : Nat} (D : KDict X.K X.w d es n) : IxR X (fun x y H Q => ∃ (z : Str) (u0 : Value) (v0 : V), x = .ref d ∧ y = .str z ∧ PySem.W.nsIn X.K d z = some (some u0) ∧ RelV v0 u0 ∧ Q v0 H) := by
  intro value slice pins s σ H x y v u Q I rx ry h hs
  have hx := h
  obtain ⟨z, u0, v0, ex, ey, _⟩ := hx
  subst ex
  have rx' := rx
  cases rx'
  exact tail_any (kd_type D I) PySem.slot_dict_getitem.lookup (op_item_kd D pins s σ H _ y _ u Q I rx ry h) hs
theorem look_mem {k : Sg} {v : PV} : ∀ {kvs : List (Sg × PV)}, look k kvs = some v → (k, v) ∈ kvs
  | [], h => by simp [look] at h
  | (j, x) :: r, h => by
    unfold look at h
    split at h
    · rename_i e
      cases h
      rw [e]; simp
    · exact List.mem_cons_of_mem _ (look_mem h)
theorem se_tabD {t : Nat} {i : ME} {x : Str} {y : Expr} {p1 pos : Pos} {kvs : List (Sg × PV)} {a : Addr} (hS : S.dtab t = some kvs) (hm : X.mg x = some (.ref a)) (D : DtOk X.K X.w a kvs) (hg : Gl X x) (hn : (x == ("__debug__" : Str)) = false) (hs : isSlice y = false) (hi : SE X M S W i y) :
    SE X M S W (.tabD t i) (.Subscript (.Name x p1) y pos) := by
  obtain ⟨tb, b1, b2⟩ := hi
  obtain ⟨es, n, KD, hv⟩ := D
  refine ⟨_, pe_ix (ix_kd KD) (pe_glob (v := .ref a) hg hm rfl hn) b1 (plainIx hs), ?_⟩
  intro σ H Q φ F ρ st r hh hsl e p
  simp only [evE] at e
  show tb σ H _
  refine b2.bind hh hsl e p fun z st1 F1 ρ1 H1 v e1 g1 h1 r1 p1 => ?_
  rw [hS] at e1
  split at e1
  · rename_i kvs' z eq1
    cases eq1
    cases hl : look z kvs with
    | none => simp [hl, okP] at e1
    | some q =>
      simp only [hl, okP, Option.some.injEq] at e1
      subst e1
      simp only [RL, RP] at r1
      obtain ⟨u, w, h2, h3, h4⟩ := hv _ (look_mem hl)
      exact ⟨mkS z, u, w, rfl, r1.1, h2, h3, p1.tree h1 (RP.mono (fun _ _ q => by cases q) _ _ h4)⟩
  · cases e1
theorem se_dcopy {a : ME} {x : Expr} {p1 pos : Pos} (hg : Gl X "dict") (hm : X.mg "dict" = none) (hst : isStar x = false) (ha : SE X M S W a x) : SE X M S W (.dcopy a) (.Call (.Name dictN p1) [x] [] pos) := by
  obtain ⟨t, a1, a2⟩ := ha
  have sa : starEach [x] X.env = (false, eval x X.env) :: starEach [] X.env := by rw [star_each hst]
  refine ⟨_, pe_callTy call_dictD hg hm (by decide +kernel : bootBuiltins "dict" = some (.type "dict")) (pa_cons a1 pa_nil sa) (by decide) (by decide) sa rfl, ?_⟩
  intro σ H Q φ F ρ st r hh hsl e p
  simp only [evE] at e
  show t σ H _
  refine a2.bind hh hsl e p fun y st1 F1 ρ1 H1 v e1 g1 h1 r1 p1 => ?_
  cases hp : peek st1 y with
  | none => simp [hp] at e1
  | some q =>
    simp only [hp] at e1
    cases q <;> simp only [Option.some.injEq, reduceCtorEq] at e1
    rename_i kvs
    subst e1
    obtain ⟨b, ks, ev, hb, rk⟩ := peek_ok h1 r1 hp
    subst ev
    refine ⟨b, ks, rfl, .inl hb, fun c nc => ?_⟩
    obtain ⟨g2, h2⟩ := h1.cellN nc (o := .dK ks) (c := .dk true (kvs.map fun kv => (kv.1, LV.pv kv.2))) ⟨ks, upd_same, RLk_pv.mpr rk, fun _ => h1.fresh nc, fun z => Bool.noConfusion z⟩
    refine p1 _ _ _ _ g2 (by simpa using h2) ?_
    simp only [RL]
    exact ⟨c, rfl, by rw [← h1.len, List.getElem?_append_right (Nat.le_refl _)]; simp⟩
section
variable {K : PySem.W.Frag} {F : Hp} {ρ : List Addr}
theorem any_k {k : Ky} : ∀ {kvs : List (Ky × LV)} {ks : List (Key × V)}, RLk K F ρ kvs ks → (ks.any fun kv => decide (kv.1 = kyS k)) = has k kvs
  | [], ks, h => by simp only [RLk] at h; subst h; rfl
  | (j, p) :: r, ks, h => by
    simp only [RLk] at h
    obtain ⟨v, s, e1, e2, e3, e4⟩ := h
    subst e1
    by_cases hj : j = k
    · subst hj; simp [has, look]
    · have hn : ¬ kyS j = kyS k := fun e => hj (kyS_inj e)
      have ih := any_k (k := k) e4
      simp only [has, look, if_neg hj, List.any_cons, hn, decide_false, Bool.false_or] at ih ⊢
      exact ih
theorem map_k {k : Ky} {x : LV} {v : V} (rx : RL K F ρ x v) : ∀ {kvs : List (Ky × LV)} {ks : List (Key × V)}, RLk K F ρ kvs ks → RLk K F ρ (kvs.map fun kv => if kv.1 = k then (kv.1, x) else kv) (ks.map fun kv => if kv.1 = kyS k then (kv.1, v) else kv)
  | [], ks, h => by simp only [RLk] at h; subst h; simp [RLk]
  | (j, p) :: r, ks, h => by
    simp only [RLk] at h
    obtain ⟨w, s, e1, e2, e3, e4⟩ := h
    subst e1
    have ih := map_k (k := k) rx e4
    by_cases hj : j = k
    · subst hj
      simp only [List.map_cons, if_true, RLk]
      exact ⟨v, _, rfl, e2, rx, ih⟩
    · have hn : ¬ kyS j = kyS k := fun e => hj (kyS_inj e)
      simp only [List.map_cons, if_neg hj, if_neg hn, RLk]
      exact ⟨w, _, rfl, e2, e3, ih⟩
theorem snoc_k {k : Ky} {x : LV} {v : V} (hk : okK k = true) (rx : RL K F ρ x v) : ∀ {kvs : List (Ky × LV)} {ks : List (Key × V)}, RLk K F ρ kvs ks → RLk K F ρ (kvs ++ [(k, x)]) (ks ++ [(kyS k, v)])
  | [], ks, h => by simp only [RLk] at h; subst h; simp only [List.nil_append, RLk]; exact ⟨v, [], rfl, hk, rx, rfl⟩
  | (j, p) :: r, ks, h => by
    simp only [RLk] at h
    obtain ⟨w, s, e1, e2, e3, e4⟩ := h
    subst e1
    simp only [List.cons_append, RLk]
    exact ⟨w, _, rfl, e2, e3, snoc_k hk rx e4⟩
theorem put_k {k : Ky} {x : LV} {v : V} {kvs : List (Ky × LV)} {ks : List (Key × V)} (hk : okK k = true) (rx : RL K F ρ x v) (h : RLk K F ρ kvs ks) : RLk K F ρ (putD k x kvs) (putK ks (kyS k) v) := by
  unfold putD putK
  rw [any_k h]
  split
  · exact map_k rx h
  · exact snoc_k hk rx h
theorem merge_k : ∀ {m : List (Ky × PV)} {kvs : List (Key × V)} {acc : List (Ky × LV)} {ks : List (Key × V)}, RPk K F m kvs → RLk K F ρ acc ks → RLk K F ρ (mergeD acc m) (mergeK ks kvs)
  | [], kvs, acc, ks, h, h2 => by
    simp only [RPk] at h
    subst h
    exact h2
  | (k, p) :: m, kvs, acc, ks, h, h2 => by
    simp only [RPk] at h
    obtain ⟨v, r, e1, e2, e3, e4⟩ := h
    subst e1
    show RLk K F ρ (mergeD (putD k (.pv p) acc) m) (mergeK (putK ks (kyS k) v) r)
    exact merge_k e4 (put_k e2 (by simp only [RL]; exact e3) h2)
theorem pairs_ok {H : Hp} (s : Sub F H) : ∀ {ps : List PV} {vs : List V} {m : List (Ky × PV)}, RPs K F ps vs → pairsK ps = some m → ∃ (as : List Addr) (kvs : List (Key × V)), vs = as.map V.ref ∧ Paired (fun p kv => SqT K H p [kV kv.1, kv.2]) as kvs ∧ RPk K F m kvs
  | [], vs, m, h, e => by
    simp only [RPs] at h
    simp only [pairsK, Option.some.injEq] at e
    subst h e
    exact ⟨[], [], rfl, .nil, by simp only [RPk]⟩
  | p :: r, vs, m, h, e => by
    simp only [RPs] at h
    obtain ⟨v, r', e1, h1, h2⟩ := h
    subst e1
    unfold pairsK at e
    split at e
    · rename_i eq1; cases eq1
    · rename_i k x r2 eq1
      cases eq1
      split at e
      · rename_i ky m2 hk hm
        simp only [Option.some.injEq] at e
        subst e
        obtain ⟨as, kvs, e2, e3, e4⟩ := pairs_ok s h2 hm
        simp only [RP, RPs] at h1
        obtain ⟨a, us, e5, e6, w1, q1, e7, r1, w2, q2, e8, r3, e9⟩ := h1
        subst e9 e8 e7 e5 e2
        obtain ⟨hv, ho⟩ := kV_of hk (PK.of s r1)
        subst hv
        exact ⟨a :: as, (kyS ky, w2) :: kvs, rfl, .cons (.of (s _ _ e6)) e3, by simp only [RPk]; exact ⟨w2, kvs, rfl, ho, r3, e4⟩⟩
      · cases e
    · cases e
end
theorem se_dpairs {a : ME} {x : Expr} {p1 pos : Pos} (hc : X.calm = true) (hg : Gl X "dict") (hm : X.mg "dict" = none) (hst : isStar x = false) (ha : SE X M S W a x) : SE X M S W (.dpairs a) (.Call (.Name dictN p1) [x] [] pos) := by
  obtain ⟨t, a1, a2⟩ := ha
  have sa : starEach [x] X.env = (false, eval x X.env) :: starEach [] X.env := by rw [star_each hst]
  refine ⟨_, pe_callTy (call_dictP hc) hg hm (by decide +kernel : bootBuiltins "dict" = some (.type "dict")) (pa_cons a1 pa_nil sa) (by decide) (by decide) sa rfl, ?_⟩
  intro σ H Q φ F ρ st r hh hsl e p
  simp only [evE] at e
  show t σ H _
  refine a2.bind hh hsl e p fun y st1 F1 ρ1 H1 v e1 g1 h1 r1 p1 => ?_
  cases hp : peek st1 y with
  | none => simp [hp] at e1
  | some q =>
    simp only [hp] at e1
    split at e1
    · rename_i ps eq1
      cases eq1
      split at e1
      · rename_i m hm'
        simp only [Option.some.injEq] at e1
        subst e1
        obtain ⟨b, vs, ev, hb, rk⟩ := peek_ok h1 r1 hp
        subst ev
        obtain ⟨as, kvs, e2, e3, e4⟩ := pairs_ok h1.sub rk hm'
        subst e2
        refine ⟨b, as, kvs, rfl, .of hb, e3, fun c nc => ?_⟩
        obtain ⟨g2, h2⟩ := h1.cellN nc (o := .dK (mergeK [] kvs)) (c := .dk true (mergeD [] m)) ⟨mergeK [] kvs, upd_same, merge_k e4 (by simp only [RLk]), fun _ => h1.fresh nc, fun z => Bool.noConfusion z⟩
        refine p1 _ _ _ _ g2 (by simpa using h2) ?_
        simp only [RL]
        exact ⟨c, rfl, by rw [← h1.len, List.getElem?_append_right (Nat.le_refl _)]; simp⟩
      · cases e1
    · cases e1
theorem se_lcopy {a : ME} {x : Expr} {p1 pos : Pos} (hu : room2 X) (hg : Gl X (biName .list)) (hm : X.mg (biName .list) = none) (hst : isStar x = false) (ha : SE X M S W a x) : SE X M S W (.lcopy a) (.Call (.Name (biName .list) p1) [x] [] pos) := by
  obtain ⟨t, a1, a2⟩ := ha
  have sa : starEach [x] X.env = (false, eval x X.env) :: starEach [] X.env := by rw [star_each hst]
  refine ⟨_, pe_bi (b := .list) hu (fun z => Bool.noConfusion z) (fun z => Bool.noConfusion z) hg hm (pa_cons a1 pa_nil sa) sa rfl, ?_⟩
  intro σ H Q φ F ρ st r hh hsl e p
  simp only [evE] at e
  show t σ H _
  refine a2.bind hh hsl e p fun y st1 F1 ρ1 H1 v e1 g1 h1 r1 p1 => ?_
  cases q1 : sq st1 y with
  | none => simp [q1] at e1
  | some xs =>
    simp only [q1] at e1
    split at e1
    · simp only [Option.some.injEq] at e1
      subst e1
      obtain ⟨c, zs, ec, hc, rc⟩ := sq_ok h1 r1 q1
      subst ec
      refine ⟨c, zs, rfl, .inl (.of hc), fun m nm => ?_⟩
      obtain ⟨g3, h3⟩ := h1.cellN nm (o := .lst zs) (c := .lst true xs) ⟨zs, upd_same, RLs.mono (Sub.refl _) (Pre.snoc _ _) _ _ rc, fun _ => h1.fresh nm, fun z => Bool.noConfusion z⟩
      refine p1 _ _ _ _ g3 (by simpa using h3) ?_
      simp only [RL]
      exact ⟨m, rfl, by rw [← h1.len, List.getElem?_append_right (Nat.le_refl _)]; simp⟩
    · cases e1
theorem se_cat {a b : ME} {x y : Expr} {pos : Pos} (ha : SE X M S W a x) (hb : SE X M S W b y) : SE X M S W (.cat a b) (.BinOp x .Add y pos) := by
  obtain ⟨ta, a1, a2⟩ := ha
  obtain ⟨tb, b1, b2⟩ := hb
  refine ⟨_, pe_op op_cat a1 b1, ?_⟩
  intro σ H Q φ F ρ st r hh hsl e p
  simp only [evE] at e
  show ta σ H _
  refine a2.bind hh hsl e p fun u st1 F1 ρ1 H1 v e1 g1 h1 r1 p1 => ?_
  refine b2.bind h1 (hsl.g g1) e1 p1 fun w st2 F2 ρ2 H2 v2 e2 g2 h2 r2 p2 => ?_
  have r1' := RL.mono g2.sub g2.pre _ _ r1
  cases q1 : sq st2 u with
  | none => simp [q1] at e2
  | some xs =>
    cases q2 : sq st2 w with
    | none => simp [q1, q2] at e2
    | some ys =>
      simp only [q1, q2] at e2
      split at e2
      · rename_i hl
        simp only [Option.some.injEq] at e2
        subst e2
        obtain ⟨c, zs, ec, hc, rc⟩ := sq_ok h2 r1' q1
        obtain ⟨d, ws, ed, hd, rd⟩ := sq_ok h2 r2 q2
        refine ⟨c, d, zs, ws, ec, ed, hc, hd, by rw [← rc.length, ← rd.length, line_eq]; exact hl, fun m nm => ?_⟩
        have rr : RLs X.K F2 ρ2 (xs ++ ys) (zs ++ ws) := rc.append rd
        obtain ⟨g3, h3⟩ := h2.cellN nm (o := .lst (zs ++ ws)) (c := .lst true (xs ++ ys)) ⟨zs ++ ws, upd_same, RLs.mono (Sub.refl _) (Pre.snoc _ _) _ _ rr, fun _ => h2.fresh nm, fun z => Bool.noConfusion z⟩
        refine p2 _ _ _ _ g3 (by simpa using h3) ?_
        simp only [RL]
        exact ⟨m, rfl, by rw [← h2.len, List.getElem?_append_right (Nat.le_refl _)]; simp⟩
      · cases e2
end
end Z
end

section
/-! ZP: the theorem for expressions, all constructs. -/
namespace Z
open PySem PySem.Spec PyProof.Rows L2
section
variable {X : Cx} {g : SC} {M : Nm} {S : Sem} {W : WX} {k : Nat}
theorem boolop_ok (c : Bool) (pos : Pos) : ∀ {ms : List ME} {es : List Expr}, ms ≠ [] → SEs X M S W ms es → ∃ t, PE X (.BoolOp (if c then .And else .Or) es pos) t ∧ RdE M X.K W t (evB S c ms)
  | [], _, h, _ => absurd rfl h
  | [m], es, _, h => by
    obtain ⟨e, r, h1, h2, ⟨t, h3, h4⟩, h5⟩ := h
    have h5' : r = [] := h5
    subst h1 h5'
    exact ⟨_, pe_one h3, fun σ H Q φ F ρ st r hh hs e p => h4 σ H Q φ F ρ st r hh hs (by simpa only [evB] using e) p⟩
  | m :: m' :: ms, es, _, h => by
    obtain ⟨e, r, h1, h2, ⟨t, h3, h4⟩, h5⟩ := h
    subst h1
    obtain ⟨t', h6, h7⟩ := boolop_ok c pos (ms := m' :: ms) (es := r) (by simp) h5
    obtain ⟨e', r', h8, _⟩ := h5
    subst h8
    refine ⟨if c then tAndT X.K t t' else tOrT X.K t t', ?_, fun σ H Q φ F ρ st r hh hs e p => rd_boolop2 h4 h7 σ H Q φ F ρ st r hh hs (by simp only [evB] at e; exact e) p⟩
    cases c with
    | true => exact pe_andT h3 h6
    | false => exact pe_orT h3 h6
theorem boolopT_ok (c : Bool) (pos : Pos) : ∀ {ms : List MT} {es : List Expr}, ms ≠ [] → STs X M S W ms es → ∃ t, PW X (.BoolOp (if c then .And else .Or) es pos) t ∧ RdT M X.K W t (evBT S c ms)
  | [], _, h, _ => absurd rfl h
  | [m], es, _, h => by
    obtain ⟨e, r, h1, ⟨t, h3, h4⟩, h5⟩ := h
    have h5' : r = [] := h5
    subst h1 h5'
    refine ⟨t, ?_, fun σ H Q φ F ρ st r hh hs e p => h4 σ H Q φ F ρ st r hh hs (by simpa only [evBT] using e) p⟩
    cases c with
    | true => exact pw_and1 h3
    | false => exact pw_or1 h3
  | m :: m' :: ms, es, _, h => by
    obtain ⟨e, r, h1, ⟨t, h3, h4⟩, h5⟩ := h
    subst h1
    obtain ⟨t', h6, h7⟩ := boolopT_ok c pos (ms := m' :: ms) (es := r) (by simp) h5
    obtain ⟨e', r', h8, _⟩ := h5
    subst h8
    refine ⟨if c then tAnd t t' else tOr t t', ?_, fun σ H Q φ F ρ st r hh hs e p => rd_boolopT2 h4 h7 σ H Q φ F ρ st r hh hs (by simp only [evBT] at e; exact e) p⟩
    cases c with
    | true => exact pw_and h3 h6
    | false => exact pw_or h3 h6
theorem rd_cmpT {ta tb : TE} {fa fb : Slots → Store → Option ER} (ha : RdE M X.K W ta fa) (hb : RdE M X.K W tb fb) (op : CO) :
    RdT M X.K W (tTest (tOp (rCmp X.K op) ta tb)) fun φ st => R.bt (fa φ st) fun x st => R.bt (fb φ st) fun y st => cmpT op x y st := by
  intro σ H Q φ F ρ st res hh hs e p
  show ta σ H _
  refine ha.bindT hh hs e p fun x st1 F1 ρ1 H1 v e1 g1 h1 r1 p1 => ?_
  refine hb.bindT h1 (hs.g g1) e1 p1 fun y st2 F2 ρ2 H2 w e2 g2 h2 r2 p2 => ?_
  unfold cmpT at e2
  have r1' := RL.mono g2.sub g2.pre x v r1
  cases ex : peek st2 x with
  | none => simp [ex] at e2
  | some a =>
    cases ey : peek st2 y with
    | none => simp [ex, ey] at e2
    | some b =>
      simp only [ex, ey, Option.map_eq_some_iff] at e2
      obtain ⟨c, e3, e4⟩ := e2
      subst e4
      refine rd_cmpP (W := W) (σ := σ) (st := st2) h2 (peek_ok h2 r1' ex) (peek_ok h2 r2 ey) e3 fun F3 ρ3 H3 z g3 h3 r3 => ?_
      simp only [RL, RP] at r3
      exact ⟨c, r3, p2 F3 ρ3 H3 g3 h3⟩
theorem rd_chain {ta tb tc : TE} {fa fb fc : Slots → Store → Option ER} (ha : RdE M X.K W ta fa) (hb : RdE M X.K W tb fb) (hc : RdE M X.K W tc fc) (o1 o2 : CO) :
    RdT M X.K W (tTest (tChain (rCmp X.K o1) (rCmp X.K o2) ta tb tc)) fun φ st => R.bt (fa φ st) fun x st => R.bt (fb φ st) fun y st => T.bt (cmpT o1 x y st) fun k st => if k then R.bt (fc φ st) fun z st => cmpT o2 y z st else some (.ok false st) := by
  intro σ H Q φ F ρ st res hh hs e p
  show ta σ H _
  refine ha.bindT hh hs e p fun x st1 F1 ρ1 H1 v e1 g1 h1 r1 p1 => ?_
  refine hb.bindT h1 (hs.g g1) e1 p1 fun y st2 F2 ρ2 H2 w e2 g2 h2 r2 p2 => ?_
  unfold cmpT at e2
  have r1' := RL.mono g2.sub g2.pre x v r1
  cases ex : peek st2 x with
  | none => simp [ex, T.bt] at e2
  | some a =>
    cases ey : peek st2 y with
    | none => simp [ex, ey, T.bt] at e2
    | some b =>
      simp only [ex, ey] at e2
      cases ed : doCmp o1 a b with
      | none => simp [ed, T.bt] at e2
      | some c =>
        simp only [ed, Option.map_some, T.bt] at e2
        refine rd_cmpP (W := W) (σ := σ) (st := st2) h2 (peek_ok h2 r1' ex) (peek_ok h2 r2 ey) ed fun F3 ρ3 H3 z g3 h3 r3 => ?_
        simp only [RL, RP] at r3
        refine ⟨c, r3, ?_⟩
        cases c with
        | false =>
          simp only [Bool.false_eq_true, if_false, Option.some.injEq] at e2 ⊢
          subst e2
          exact ⟨false, rfl, p2 F3 ρ3 H3 g3 h3⟩
        | true =>
          simp only [if_true] at e2 ⊢
          refine hc.bindT h3 (((hs.g g1).g g2).g g3) e2 (p2.g g3) fun z' st4 F4 ρ4 H4 u e4 g4 h4 r4 p4 => ?_
          have r2' := RL.mono g4.sub g4.pre y w (RL.mono g3.sub g3.pre y w r2)
          cases ez : peek st4 y with
          | none => simp [ez] at e4
          | some b' =>
            cases ew : peek st4 z' with
            | none => simp [ez, ew] at e4
            | some d =>
              simp only [ez, ew, Option.map_eq_some_iff] at e4
              obtain ⟨k, e5, e6⟩ := e4
              subst e6
              refine rd_cmpP (W := W) (σ := σ) (st := st4) h4 (peek_ok h4 r2' ez) (peek_ok h4 r4 ew) e5 fun F5 ρ5 H5 z5 g5 h5 r5 => ?_
              simp only [RL, RP] at r5
              exact ⟨k, r5, p4 F5 ρ5 H5 g5 h5⟩
theorem rd_isnT {t : TE} {f : Slots → Store → Option ER} {neg : Bool} (h : RdE M X.K W t f) : RdT M X.K W (tTest (tIsNB neg t)) fun φ st => R.bt (f φ st) fun x st => match x with
    | .pv .non => some (.ok (!neg) st)
    | _ => some (.ok neg st) := by
  intro σ H Q φ F ρ st r hh hs e p
  show t σ H _
  refine h.bindT hh hs e p fun x st1 F1 ρ1 H1 v e1 g1 h1 r1 p1 => ⟨rfl, ?_⟩
  have hn := RL_non r1
  split at e1
  · simp only [Option.some.injEq] at e1
    subst e1
    refine ⟨_, rfl, ?_⟩
    rw [decide_eq_true (hn.mpr rfl), Bool.xor_true]
    exact p1 F1 ρ1 H1 (G.refl _ _ _) h1
  · rename_i hx
    simp only [Option.some.injEq] at e1
    subst e1
    refine ⟨_, rfl, ?_⟩
    rw [decide_eq_false (fun z => hx (hn.mp z)), Bool.xor_false]
    exact p1 F1 ρ1 H1 (G.refl _ _ _) h1
/-- one reading for all blocks -/
theorem all_PE {ι : Type} {Xs : ι → Cx} {e : Expr} {f : Slots → Store → Option ER} {K : PySem.W.Frag} {W : WX} (h : ∀ i, ∃ t, PE (Xs i) e t ∧ RdE M K W t f) : ∃ t, (∀ i, PE (Xs i) e t) ∧ RdE M K W t f := by
  refine ⟨fun σ H Q => ∀ i, Classical.choose (h i) σ H Q, fun i => ⟨fun pins s σ H Q I q => (Classical.choose_spec (h i)).1.run pins s σ H Q I (q i)⟩, fun σ H Q φ F ρ st r hh hs ev p i => (Classical.choose_spec (h i)).2 σ H Q φ F ρ st r hh hs ev p⟩
theorem all_PT {ι : Type} {Xs : ι → Cx} {e : Expr} {f : Slots → Store → Option ET} {K : PySem.W.Frag} {W : WX} (h : ∀ i, ∃ t, PT (Xs i) e t ∧ RdT M K W t f) : ∃ t, (∀ i, PT (Xs i) e t) ∧ RdT M K W t f := by
  refine ⟨fun σ H Q => ∀ i, Classical.choose (h i) σ H Q, fun i => ⟨fun pins s σ H Q I q => (Classical.choose_spec (h i)).1.run pins s σ H Q I (q i)⟩, fun σ H Q φ F ρ st r hh hs ev p i => (Classical.choose_spec (h i)).2 σ H Q φ F ρ st r hh hs ev p⟩
theorem all_PG {ι : Type} {Xs : ι → Cx} {e : Expr} {m : MG} {K : PySem.W.Frag} (h : ∀ i, ∃ t, PG (Xs i) e t ∧ RdG M K t m) : ∃ t, (∀ i, PG (Xs i) e t) ∧ RdG M K t m := by
  refine ⟨fun v σ H Q => ∀ i, Classical.choose (h i) v σ H Q, fun i => ⟨fun pins s σ H v u Q I r q => (Classical.choose_spec (h i)).1.run pins s σ H v u Q I r (q i)⟩, fun x v φ φ' σ F ρ H st Q hh hs r ev p i => (Classical.choose_spec (h i)).2 x v φ φ' σ F ρ H st Q hh hs r ev p⟩
structure Blk where
  s : Shared
  H : Hp
  A : Addr
  cl : List (Str × Addr)
  fp : List Addr
abbrev Blk.cx (b : Blk) (X : Cx) (scope : Scope) : Cx := X.blk b.s b.H scope (compEnvC scope b.cl b.A X.env) b.fp
/-- a turn of a comprehension -/
theorem turn_nil {te : TE} {elt : ME} (he : RdE M X.K W0 te (evE S elt)) : RdTurn M X.K tYes te fun φ st => evIf S [] φ st fun st => R.bs (evE S elt φ st) fun y st => some (.ok [y] st) := by
  intro φ σ F ρ H st st' ys U U0 hh hs e p
  show (if true = true then te σ H U else U0 H)
  rw [if_pos rfl]
  simp only [evIf] at e
  cases q : evE S elt φ st with
  | none => rw [q] at e; cases e
  | some r =>
    rw [q] at e
    cases r with
    | ex x st1 => simp [R.bs] at e
    | ok y st1 =>
      simp only [R.bs, Option.some.injEq, ERs.ok.injEq] at e
      obtain ⟨e1, e2⟩ := e
      subst e1 e2
      exact he σ H U φ F ρ st _ hh hs q fun F1 ρ1 H1 v g1 h1 r1 => (p F1 ρ1 H1 g1 h1).2 y v rfl r1
theorem turn_one {tt : TT} {te : TE} {elt : ME} {t : MT} (ht : RdT M X.K W0 tt (evT S t)) (he : RdE M X.K W0 te (evE S elt)) : RdTurn M X.K tt te fun φ st => evIf S [t] φ st fun st => R.bs (evE S elt φ st) fun y st => some (.ok [y] st) := by
  intro φ σ F ρ H st st' ys U U0 hh hs e p
  simp only [evIf] at e
  cases qt : evT S t φ st with
  | none => rw [qt] at e; cases e
  | some rt =>
    rw [qt] at e
    cases rt with
    | ex x st1 => simp at e
    | ok b st1 =>
      refine ht σ H _ φ F ρ st _ hh hs qt fun F1 ρ1 H1 g1 h1 => ?_
      cases b with
      | false =>
        rw [if_neg Bool.false_ne_true]
        simp only [Option.some.injEq, ERs.ok.injEq] at e
        obtain ⟨e1, e2⟩ := e
        subst e1 e2
        exact (p F1 ρ1 H1 g1 h1).1 rfl
      | true =>
        rw [if_pos rfl]
        simp only at e
        cases q : evE S elt φ st1 with
        | none => rw [q] at e; cases e
        | some r =>
          rw [q] at e
          cases r with
          | ex x st2 => simp [R.bs] at e
          | ok y st2 =>
            simp only [R.bs, Option.some.injEq, ERs.ok.injEq] at e
            obtain ⟨e1, e2⟩ := e
            subst e1 e2
            exact he σ H1 U φ F1 ρ1 st1 _ h1 (hs.g g1) q fun F2 ρ2 H2 v g2 h2 r2 => (p F2 ρ2 H2 (g1.trans g2) h2).2 y v rfl r2
/-- the tests of a clause -/
def SIf (X : Cx) (M : Nm) (S : Sem) (ifs : List MT) (is : List Expr) : Prop := (ifs = [] ∧ is = []) ∨ ∃ t e, ifs = [t] ∧ is = [e] ∧ ST X M S W0 t e
theorem rd_frz {t : TE} {f : Slots → Store → Option ER} (h : RdE M X.K W t f) : RdE M X.K W t fun φ st => R.bind (f φ st) fun x st => (frz x st).map fun p => .ok (.pv p.1) p.2 := by
  intro σ H Q φ F ρ st r hh hs e p
  refine h.bind hh hs e p fun x st1 F1 ρ1 H1 v e1 g1 h1 r1 p1 => ?_
  simp only [Option.map_eq_some_iff] at e1
  obtain ⟨q, e2, e3⟩ := e1
  subst e3
  obtain ⟨F2, g2, h2, r2⟩ := frz_ok h1 r1 (p := q.1) (st' := q.2) e2
  exact p1 F2 ρ1 H1 v g2 h2 (by simp only [RL]; exact r2)
theorem rd_callC {f n : Nat} {t : TA} {ms : List ME} (hn : ms.length = n) (h : RdA M X.K W t (evEs S ms)) : RdE M X.K W (tCallG (spOf M X.K (S.cal f) n) (fun σ cls d H => W cls d σ H) t) (evE S (.call f ms)) := by
  intro σ H Q φ F ρ st r hh hs e p
  simp only [evE] at e
  cases q : evEs S ms φ st with
  | none => rw [q] at e; cases e
  | some rs =>
    rw [q] at e
    cases rs with
    | ex x st1 =>
      have e' : r = .ex x st1 := (Option.some.inj e).symm
      subst e'
      exact h σ H _ φ F ρ st _ hh hs q p
    | ok xs st1 =>
      refine h σ H _ φ F ρ st _ hh hs q fun F1 ρ1 H1 vs g1 h1 r1 => ?_
      show spOf M X.K (S.cal f) n vs H1 Q (fun cls d H => W cls d σ H)
      exact rd_call h1 r1 (by rw [← r1.length, evEs_len q, hn]) e (p.g g1)
theorem rd_callCH {f n : Nat} {t : TA} {ms : List ME} (hn : ms.length = n) (h : RdA M X.K W t (evEs S ms)) : RdE M X.K W (tCallS (spOf M X.K (S.cal f) n) (fun σ cls d H => W cls d σ H) t) (evE S (.call f ms)) := by
  intro σ H Q φ F ρ st r hh hs e p
  simp only [evE] at e
  cases q : evEs S ms φ st with
  | none => rw [q] at e; cases e
  | some rs =>
    rw [q] at e
    cases rs with
    | ex x st1 =>
      have e' : r = .ex x st1 := (Option.some.inj e).symm
      subst e'
      exact h σ H _ φ F ρ st _ hh hs q p
    | ok xs st1 =>
      refine h σ H _ φ F ρ st _ hh hs q fun F1 ρ1 H1 vs g1 h1 r1 => ?_
      show spOf M X.K (S.cal f) n vs H1 Q (fun cls d H => W cls d σ H)
      exact rd_call h1 r1 (by rw [← r1.length, evEs_len q, hn]) e (p.g g1)
theorem rd_biC {b : BI} {t : TA} {ms : List ME} (h : RdA M X.K W t (evEs S ms)) : RdE M X.K W (tCB (rBI X.K b) t) (evE S (.bi b ms)) := by
  intro σ H Q φ F ρ st r hh hs e p
  simp only [evE] at e
  refine h.bind hh hs e p fun xs st1 F1 ρ1 H1 vs e1 g1 h1 r1 p1 => ?_
  split at e1
  · rename_i n hn
    simp only [Option.some.injEq] at e1
    subst e1
    unfold lenB at hn
    split at hn
    · rename_i x
      simp only [RLs] at r1
      obtain ⟨w, r', k1, k2, k3⟩ := r1
      subst k1 k3
      obtain ⟨a, ws, ev, hl, ho⟩ := rd_lenL h1 k2 hn
      subst ev
      refine ⟨.ref a, n, rfl, ?_, p1.tree h1 (by simp only [RP])⟩
      rcases ho with ho | ho
      · exact .inl ⟨ws, .inl (.inl ho), hl.symm⟩
      · exact .inr ⟨ws, .inl (.inl ho), hl.symm⟩
    · cases hn
  split at e1
  · rename_i ps hp
    cases qz : doBI b ps with
    | none => simp [qz, okP] at e1
    | some z =>
      simp only [qz, okP, Option.some.injEq] at e1
      subst e1
      exact rd_bi h1 (peeks_ok h1 r1 hp) qz p1
  · cases e1
end
section
variable {M : Nm} {S : Sem} {k : Nat}
mutual
theorem snd : ∀ (m : ME) (g : SC) (X : Cx) (W : WX) (e : Expr), Cok X g M S W k → chkE g m e = true → SE X M S W m e
  | .var i, g, X, W, e, C, h => by
    cases e <;> simp only [chkE, Bool.and_eq_true, decide_eq_true_eq, Bool.false_eq_true] at h
    obtain ⟨h1, h2, h3⟩ := C.vis h.2
    exact ⟨_, pe_var (i := i) (by rw [C.N]; exact h.1) h1 h2 h3, rd_var i⟩
  | .lit p, g, X, W, e, C, h => by
    cases e <;> simp only [chkE, Bool.false_eq_true] at h
    obtain ⟨v, h1, h2⟩ := lit_ok (X := X) h
    exact ⟨_, h1, rd_const h2 fun φ st => .inl (by simp only [evE])⟩
  | .glb i, g, X, W, e, C, h => by
    cases e <;> simp only [chkE, Bool.and_eq_true, decide_eq_true_eq, Bool.false_eq_true] at h
    obtain ⟨h1, h2⟩ := C.gl h.2
    cases q : S.glb i with
    | none =>
      refine ⟨_, ⟨fun _ _ _ _ _ _ z => z.elim⟩, (show RdE M X.K W (fun _ _ _ => False) _ from fun σ H Q φ F ρ st r hh hs e p => ?_)⟩
      simp only [evE, q, okP] at e
      cases e
    | some p =>
      obtain ⟨u, v, h3, h4, _, h5⟩ := C.glb i _ p h.1 q
      exact ⟨_, pe_glob h1 h3 h4 h2, rd_const h5 fun φ st => .inl (by simp only [evE, q, okP])⟩
  | .tup es, g, X, W, e, C, h => by
    cases e <;> simp only [chkE, Bool.false_eq_true] at h
    obtain ⟨t, h1, h2⟩ := (snds es g X W _ C h).pa
    exact ⟨_, pe_tup h1, rd_tup h2⟩
  | .lst live es, g, X, W, e, C, h => by
    cases e <;> simp only [chkE, Bool.false_eq_true] at h
    obtain ⟨t, h1, h2⟩ := (snds es g X W _ C h).pa
    exact ⟨_, pe_lst h1, rd_lst h2⟩
  | .dnew t, g, X, W, e, C, h => by
    unfold chkE at h
    split at h
    · cases t with
      | true => exact ⟨_, pe_dnewT, rd_dnew true⟩
      | false => exact ⟨_, pe_dnewK, rd_dnew false⟩
    · cases h
  | .bin op a b, g, X, W, e, C, h => by
    cases e <;> simp only [chkE, Bool.and_eq_true, decide_eq_true_eq, Bool.false_eq_true] at h
    obtain ⟨⟨h1, h2⟩, h3⟩ := h
    subst h1
    obtain ⟨ta, a1, a2⟩ := snd a g X W _ C h2
    obtain ⟨tb, b1, b2⟩ := snd b g X W _ C h3
    exact ⟨_, pe_op (op_bin op) a1 b1, rd_op a2 b2 (rd_bin op)⟩
  | .cmp op a b, g, X, W, e, C, h => by
    unfold chkE at h
    split at h
    · simp only [Bool.and_eq_true, decide_eq_true_eq, Bool.not_eq_true'] at h
      obtain ⟨⟨⟨h1, hs⟩, h2⟩, h3⟩ := h
      subst h1
      obtain ⟨ta, a1, a2⟩ := snd a g X W _ C h2
      obtain ⟨tb, b1, b2⟩ := snd b g X W _ C h3
      exact ⟨_, pe_cmpR (op_cmp C.un op) a1 b1 (noSet hs _), rd_op a2 b2 (rd_cmp op)⟩
    · cases h
  | .boolop c es, g, X, W, e, C, h => by
    cases e <;> simp only [chkE, Bool.and_eq_true, decide_eq_true_eq, Bool.not_eq_true', Bool.false_eq_true] at h
    obtain ⟨⟨h1, h2⟩, h3⟩ := h
    subst h1
    obtain ⟨t, h4, h5⟩ := boolop_ok c _ (by intro z; subst z; simp at h2) (snds es g X W _ C h3)
    exact ⟨t, h4, fun σ H Q φ F ρ st r hh hs e p => h5 σ H Q φ F ρ st r hh hs (by simpa only [evE] using e) p⟩
  | .not a, g, X, W, e, C, h => by
    unfold chkE at h
    split at h
    · obtain ⟨t, h1, h2⟩ := snd a g X W _ C h
      exact ⟨_, pe_notT h1, rd_not h2⟩
    · cases h
  | .neg a, g, X, W, e, C, h => by
    unfold chkE at h
    split at h
    · obtain ⟨t, h1, h2⟩ := snd a g X W _ C h
      exact ⟨_, pe_un un_neg h1, rd_neg h2⟩
    · cases h
  | .ite c a b, g, X, W, e, C, h => by
    cases e <;> simp only [chkE, Bool.and_eq_true, Bool.false_eq_true] at h
    obtain ⟨tc, c1, c2⟩ := sndT c g X W _ C h.1.1
    obtain ⟨ta, a1, a2⟩ := snd a g X W _ C h.1.2
    obtain ⟨tb, b1, b2⟩ := snd b g X W _ C h.2
    exact ⟨_, pe_ifExp c1 a1 b1, rd_ite c2 a2 b2⟩
  | .idx a i, g, X, W, e, C, h => by
    cases e <;> simp only [chkE, Bool.and_eq_true, Bool.not_eq_true', Bool.false_eq_true] at h
    obtain ⟨ta, a1, a2⟩ := snd a g X W _ C h.1.2
    obtain ⟨tb, b1, b2⟩ := snd i g X W _ C h.2
    exact ⟨_, pe_ix (ix_Z C.un) a1 b1 (plainIx h.1.1), rd_op a2 b2 rd_getI⟩
  | .slc a l lo hb hi, g, X, W, e, C, h => by
    unfold chkE at h
    split at h
    · rename_i x le ue p1 p2
      simp only [Bool.and_eq_true] at h
      obtain ⟨⟨h1, h2⟩, h3⟩ := h
      obtain ⟨ta, a1, a2⟩ := snd a g X W _ C h1
      have lp : ∃ t, PO X le t ∧ RdO M X.K W t l (fun φ st => if l then evE S lo φ st else some (.ok (.pv .non) st)) := by
        cases le with
        | none =>
          simp only [Bool.not_eq_true'] at h2
          subst h2
          exact ⟨_, po_none, rdo_none⟩
        | some le =>
          simp only [Bool.and_eq_true] at h2
          obtain ⟨h4, h5⟩ := h2
          subst h4
          obtain ⟨t, b1, b2⟩ := snd lo g X W _ C h5
          exact ⟨_, po_some b1, rdo_some b2⟩
      have up : ∃ t, PO X ue t ∧ RdO M X.K W t hb (fun φ st => if hb then evE S hi φ st else some (.ok (.pv .non) st)) := by
        cases ue with
        | none =>
          simp only [Bool.not_eq_true'] at h3
          subst h3
          exact ⟨_, po_none, rdo_none⟩
        | some ue =>
          simp only [Bool.and_eq_true] at h3
          obtain ⟨h4, h5⟩ := h3
          subst h4
          obtain ⟨t, b1, b2⟩ := snd hi g X W _ C h5
          exact ⟨_, po_some b1, rdo_some b2⟩
      obtain ⟨tl, l1, l2⟩ := lp
      obtain ⟨tu, u1, u2⟩ := up
      exact ⟨_, pe_slice sl_W a1 l1 u1, rd_slc a2 l2 u2⟩
    · cases h
  | .slcL a l lo hb hi, g, X, W, e, C, h => by
    unfold chkE at h
    split at h
    · rename_i x le ue p1 p2
      simp only [Bool.and_eq_true] at h
      obtain ⟨⟨h1, h2⟩, h3⟩ := h
      obtain ⟨ta, a1, a2⟩ := snd a g X W _ C h1
      have lp : ∃ t, PO X le t ∧ RdO M X.K W t l (fun φ st => if l then evE S lo φ st else some (.ok (.pv .non) st)) := by
        cases le with
        | none =>
          simp only [Bool.not_eq_true'] at h2
          subst h2
          exact ⟨_, po_none, rdo_none⟩
        | some le =>
          simp only [Bool.and_eq_true] at h2
          obtain ⟨h4, h5⟩ := h2
          subst h4
          obtain ⟨t, b1, b2⟩ := snd lo g X W _ C h5
          exact ⟨_, po_some b1, rdo_some b2⟩
      have up : ∃ t, PO X ue t ∧ RdO M X.K W t hb (fun φ st => if hb then evE S hi φ st else some (.ok (.pv .non) st)) := by
        cases ue with
        | none =>
          simp only [Bool.not_eq_true'] at h3
          subst h3
          exact ⟨_, po_none, rdo_none⟩
        | some ue =>
          simp only [Bool.and_eq_true] at h3
          obtain ⟨h4, h5⟩ := h3
          subst h4
          obtain ⟨t, b1, b2⟩ := snd hi g X W _ C h5
          exact ⟨_, po_some b1, rdo_some b2⟩
      obtain ⟨tl, l1, l2⟩ := lp
      obtain ⟨tu, u1, u2⟩ := up
      exact ⟨_, pe_slice sl_W a1 l1 u1, rd_slcL a2 l2 u2⟩
    · cases h
  | .tabI t i, g, X, W, e, C, h => by
    unfold chkE at h
    split at h
    · simp only [Bool.and_eq_true, decide_eq_true_eq, Bool.not_eq_true'] at h
      obtain ⟨⟨⟨h1, h2⟩, h3⟩, h4⟩ := h
      obtain ⟨g1, g2⟩ := C.gl h2
      obtain ⟨tb, b1, b2⟩ := snd i g X W _ C h4
      obtain ⟨ps, a, hS, hm, T, ty, ok⟩ := C.tab t _ h1
      exact ⟨_, pe_ix (ix_Z C.un) (pe_glob (v := .ref a) g1 hm rfl g2) b1 (plainIx h3), fun σ H Q φ F ρ st r hh hs e p => rd_tabI T ok b2 σ H Q φ F ρ st r hh hs (by simp only [evE, hS] at e; exact e) p⟩
    · cases h
  | .tabL t, g, X, W, e, C, h => by
    unfold chkE at h
    split at h
    · simp only [Bool.and_eq_true, decide_eq_true_eq] at h
      obtain ⟨⟨⟨h1, h2⟩, h3⟩, h4⟩ := h
      subst h1
      obtain ⟨f1, f2⟩ := C.gl h2
      obtain ⟨g1, g2⟩ := C.gl h4
      obtain ⟨ps, a, hS, hm, T, ty, ok⟩ := C.tab t _ h3
      refine ⟨_, pe_bi (b := .len) C.un (fun hb => by cases hb) (fun hb => by cases hb) f1 (C.bi .len) (pa_cons (pe_glob (v := .ref a) g1 hm rfl g2) pa_nil) rfl rfl, fun σ H Q φ F ρ st r hh hs e p => ?_⟩
      simp only [evE, hS, Option.map_some, Option.some.injEq] at e
      subst e
      exact ⟨.ref a, ps.length, rfl, .inr ⟨_, T H, by simp⟩, p.tree hh (by simp only [RP])⟩
    · cases h
  | .tabX t es, g, X, W, e, C, h => by
    unfold chkE at h
    split at h
    · simp only [Bool.and_eq_true, decide_eq_true_eq] at h
      obtain ⟨⟨⟨⟨⟨h1, h2⟩, h3⟩, h4⟩, h5⟩, h6⟩ := h
      subst h1
      obtain ⟨g1, g2⟩ := C.gl h4
      obtain ⟨ps, a, hS, hm, T, ty, ok⟩ := C.tab t _ h3
      have hs := snds es g X W _ C h6
      obtain ⟨ta, a1, a2⟩ := hs.pa
      have st := hs.star
      have st' := st
      have len := hs.len
      simp only [List.all_cons, Bool.and_eq_true, Bool.not_eq_true'] at st
      exact ⟨_, pe_bm (r := rTI X.K) PySem.F.plainAttrs_tuple PySem.F.slot_tuple_index PySem.F.type_tuple_index mt_tup_index (pe_glob (v := .ref a) g1 hm rfl g2) a1 rfl (few_ok st' (by rw [← len]; exact h5)) h2 (star_each st.1) (star_plain st.2), fun σ H Q φ F ρ st r hh hs e p => rd_tabX T ty a2 σ H Q φ F ρ st r hh hs (by simp only [evE, hS] at e; exact e) p⟩
    · cases h
  | .dsel kvs i, g, X, W, e, C, h => by
    unfold chkE at h
    split at h
    · simp only [Bool.and_eq_true, decide_eq_true_eq, Bool.not_eq_true'] at h
      obtain ⟨⟨⟨⟨⟨h1, h2⟩, h3⟩, h4⟩, h5⟩, h6⟩ := h
      exact se_dsel C.un h1 h2 h3 h4 h5 (snd i g X W _ C h6)
    · cases h
  | .tabD t i, g, X, W, e, C, h => by
    unfold chkE at h
    split at h
    · simp only [Bool.and_eq_true, decide_eq_true_eq, Bool.not_eq_true'] at h
      obtain ⟨⟨⟨h1, h2⟩, h3⟩, h4⟩ := h
      obtain ⟨g1, g2⟩ := C.gl h2
      obtain ⟨kvs, a, hS, hm, D⟩ := C.dtab t _ h1
      exact se_tabD hS hm D g1 g2 h3 (snd i g X W _ C h4)
    · cases h
  | .dcopy a, g, X, W, e, C, h => by
    unfold chkE at h
    split at h
    · simp only [Bool.and_eq_true, decide_eq_true_eq, Bool.not_eq_true'] at h
      obtain ⟨⟨⟨h1, h2⟩, h3⟩, h4⟩ := h
      subst h1
      obtain ⟨g1, g2⟩ := C.gl h2
      exact se_dcopy g1 C.dct h3 (snd a g X W _ C h4)
    · cases h
  | .dpairs a, g, X, W, e, C, h => by
    unfold chkE at h
    split at h
    · simp only [Bool.and_eq_true, decide_eq_true_eq, Bool.not_eq_true'] at h
      obtain ⟨⟨⟨⟨h1, h2⟩, h3⟩, h5⟩, h4⟩ := h
      subst h1
      obtain ⟨g1, g2⟩ := C.gl h2
      exact se_dpairs (C.calm h5) g1 C.dct h3 (snd a g X W _ C h4)
    · cases h
  | .lcopy a, g, X, W, e, C, h => by
    unfold chkE at h
    split at h
    · simp only [Bool.and_eq_true, decide_eq_true_eq, Bool.not_eq_true'] at h
      obtain ⟨⟨⟨h1, h2⟩, h3⟩, h4⟩ := h
      subst h1
      obtain ⟨g1, g2⟩ := C.gl h2
      exact se_lcopy C.un g1 (C.bi .list) h3 (snd a g X W _ C h4)
    · cases h
  | .cat a b, g, X, W, e, C, h => by
    cases e <;> simp only [chkE, Bool.and_eq_true, decide_eq_true_eq, Bool.false_eq_true] at h
    obtain ⟨⟨h1, h2⟩, h3⟩ := h
    subst h1
    exact se_cat (snd a g X W _ C h2) (snd b g X W _ C h3)
  | .rev a, g, X, W, e, C, h => by
    unfold chkE at h
    split at h
    · obtain ⟨ta, a1, a2⟩ := snd a g X W _ C h
      exact ⟨_, pe_or2 (pe_revS a1) (pe_or2 (pe_revT a1) (pe_revL a1)), rd_rev a2⟩
    · cases h
  | .isn neg a, g, X, W, e, C, h => by
    unfold chkE at h
    split at h
    · simp only [Bool.and_eq_true, decide_eq_true_eq] at h
      obtain ⟨h1, h2⟩ := h
      subst h1
      obtain ⟨t, a1, a2⟩ := snd a g X W _ C h2
      exact ⟨_, pe_cmpR (op_isNB neg) a1 pe_non (noSet rfl _), rd_isn a2⟩
    · cases h
  | .isi ty a, g, X, W, e, C, h => by
    unfold chkE at h
    split at h
    · simp only [Bool.and_eq_true, decide_eq_true_eq, Bool.not_eq_true'] at h
      obtain ⟨⟨⟨⟨⟨h1, h2⟩, h3⟩, h4⟩, hst⟩, h5⟩ := h
      subst h1 h2
      obtain ⟨g1, g2⟩ := C.gl h3
      obtain ⟨g3, g4⟩ := C.gl h4
      obtain ⟨t, a1, a2⟩ := snd a g X W _ C h5
      refine ⟨_, pe_callB call_isi g1 C.bis (by decide +kernel) (pa_cons a1 (pa_cons (pe_bltn (v := .ty (tyS ty)) g3 (C.bt ty) (ty_boot ty) rfl (by cases ty <;> decide) g4) pa_nil) (star_each hst)) (by decide) (by decide) (star_each hst) (by rfl), rd_isi a2⟩
    · cases h
  | .bi b es, g, X, W, e, C, h => by
    unfold chkE at h
    split at h
    · rename_i f fp xs pos
      simp only [Bool.and_eq_true, decide_eq_true_eq, Bool.not_eq_true'] at h
      obtain ⟨⟨⟨⟨h1, h2⟩, h3⟩, h4⟩, h5⟩ := h
      subst h1
      obtain ⟨g1, g2⟩ := C.gl h2
      have hs := snds es g X W _ C h4
      obtain ⟨t, a1, a2⟩ := hs.pa
      have st := hs.star
      cases xs with
      | nil =>
        have := hs.len
        cases es <;> simp at this h3
      | cons y ys =>
        simp only [List.all_cons, Bool.and_eq_true, Bool.not_eq_true'] at st
        exact ⟨_, pe_bi C.un (fun hb => C.calm (by simpa [hb] using h5)) (fun hb => by
          cases hh : g.hot with
          | false => exact C.gd hh
          | true => exact C.gdx (by simp [hb, hh] at h5; exact h5.2)) g1 (C.bi b) a1 (star_each st.1) (star_plain st.2), rd_biC a2⟩
    · cases h
  | .bm m r es, g, X, W, e, C, h => by
    unfold chkE at h
    split at h
    · rename_i o a apos xs cpos
      simp only [Bool.and_eq_true, decide_eq_true_eq, Bool.not_eq_true'] at h
      obtain ⟨⟨⟨⟨⟨h1, h2⟩, hl⟩, h4⟩, h5⟩, h6⟩ := h
      subst h1
      exact se_bm C.un hl h4 h5 (snd r g X W _ C h2) (snds es g X W _ C h6)
    · cases h
  | .call f es, g, X, W, e, C, h => by
    unfold chkE at h
    split at h
    · rename_i x p xs pos
      simp only [Bool.and_eq_true, decide_eq_true_eq, Bool.not_eq_true'] at h
      obtain ⟨⟨⟨⟨h1, h2⟩, h3⟩, h4⟩, h5⟩ := h
      obtain ⟨g1, g2⟩ := C.gl h2
      have hs := snds es g X W _ C h4
      obtain ⟨t, a1, a2⟩ := hs.pa
      have st := hs.star
      have len := hs.len
      cases xs with
      | nil => cases es <;> simp at len h3
      | cons y ys =>
        simp only [List.all_cons, Bool.and_eq_true, Bool.not_eq_true'] at st
        cases hh : g.hot with
        | false =>
          obtain ⟨a, fd, ps, F, hm, hk, hb⟩ := C.calls hh f _ _ h1
          exact ⟨_, pe_callG F (C.hr hh) (C.gd hh) g1 hm hk hb (fun σ => L2N.passAt C.takes σ) a1 g2 (star_each st.1) (star_plain st.2), rd_callC rfl a2⟩
        | true =>
          obtain ⟨a, fd, ps, F, hm, hk, hb⟩ := C.callsH f _ _ h1 (by simpa [hh] using h5)
          exact ⟨_, L2H.pe_callH F (C.hrH hh) (C.hotc hh) g1 hm hk hb (fun σ => L2N.passAt C.takes σ) a1 g2 (star_each st.1) (star_plain st.2), rd_callCH rfl a2⟩
    · cases h
  | .lc live elt tg ik src ifs own, g, X, W, e, C, h => by
    unfold chkE at h
    split at h
    · rename_i elx gs scope pos
      split at h
      · rename_i t it is ow hc ho
        split at h
        · rename_i xs hsrc
          simp only [Bool.and_eq_true, Bool.not_eq_true'] at h
          obtain ⟨⟨⟨⟨⟨⟨h1, hown⟩, h2⟩, h3⟩, h4⟩, h5⟩, hhot⟩ := h
          have B := blkOk_by h1
          have hgs : gs = [⟨t, it, is, 0⟩] := by
            unfold comps at hc
            split at hc
            · split at hc
              · rename_i ha
                simp only [Option.some.injEq, Prod.mk.injEq] at hc
                obtain ⟨e1, e2, e3⟩ := hc
                subst e1 e2 e3 ha; rfl
              · cases hc
            · cases hc
          subst hgs
          have how : ∀ (own : List Nat) (ow : List (Str × Nat)), ownOf g.N own = some ow → ow.map (·.2) = own := by
            intro own
            induction own with
            | nil => intro ow e; simp only [ownOf, Option.some.injEq] at e; subst e; rfl
            | cons i r ih =>
              intro ow e
              unfold ownOf at e
              split at e
              · simp only [Option.map_eq_some_iff] at e
                obtain ⟨ow', e1, e2⟩ := e
                subst e2
                simp [ih ow' e1]
              · cases e
          have hown2 := how own ow ho
          obtain ⟨wi, i1, i2, i3⟩ := iter_ok C hsrc (snds src g X W _ C h3) (tg := t)
          have B' : BlkOk X.N X.env.scope scope ow := by rw [C.N, C.sc]; exact B
          have sub : ∀ i ∈ slotsG tg, i ∈ own := fun i hi => by
            have := List.all_eq_true.mp hown i hi
            simpa using this
          obtain ⟨tg', hg1, hg2⟩ := all_PG (Xs := fun b : Blk => b.cx X scope) (K := X.K) (M := M) fun b => tgt (C.blk hhot scope b.s b.H b.A b.cl b.fp) tg t h2
          obtain ⟨te, he1, he2⟩ := all_PE (Xs := fun b : Blk => b.cx X scope) (K := X.K) (W := W0) (M := M) fun b => snd elt (g.blk scope) (b.cx X scope) W0 elx (C.blk hhot scope b.s b.H b.A b.cl b.fp) h5
          have tests : ∃ tt, (∀ b : Blk, PTs (b.cx X scope) is tt) ∧ RdTurn M X.K tt te fun φ st => evIf S ifs φ st fun st => R.bs (evE S elt φ st) fun y st => some (.ok [y] st) := by
            match ifs, h4 with
            | [], h4 =>
              simp only [chkIfs, List.isEmpty_iff] at h4
              subst h4
              exact ⟨tYes, fun b => pts_nil, turn_nil he2⟩
            | c :: cs, h4 =>
              match cs, is, h4 with
              | [], [e'], h4 =>
                simp only [chkIfs] at h4
                obtain ⟨tt, t1, t2⟩ := all_PT (Xs := fun b : Blk => b.cx X scope) (K := X.K) (W := W0) (M := M) fun b => sndT c (g.blk scope) (b.cx X scope) W0 e' (C.blk hhot scope b.s b.H b.A b.cl b.fp) h4
                exact ⟨tt, fun b => pts_one (t1 b), turn_one t2 he2⟩
              | [], [], h4 => simp [chkIfs] at h4
              | [], _ :: _ :: _, h4 => simp [chkIfs] at h4
              | _ :: _, _, h4 => simp [chkIfs] at h4
          obtain ⟨tt, t1, t2⟩ := tests
          refine ⟨_, pe_lc (C.calm hhot) C.nd i1 B' (fun s H A cl fp => hg1 ⟨s, H, A, cl, fp⟩) (fun s H A cl fp => t1 ⟨s, H, A, cl, fp⟩) (fun s H A cl fp => he1 ⟨s, H, A, cl, fp⟩) (fun x => i3 X.env x), ?_⟩
          rw [hown2]
          exact rd_lc i2 hg2 sub t2
        · cases h
      · cases h
    · cases h
  | .lcW live elt tg src ifs own, g, X, W, e, C, h => by
    unfold chkE at h
    split at h
    · rename_i elx gs scope pos
      split at h
      · rename_i t it is ow hc ho
        simp only [Bool.and_eq_true, Bool.not_eq_true'] at h
        obtain ⟨⟨⟨⟨⟨⟨⟨h1, hown⟩, h2⟩, h3⟩, h4⟩, h5⟩, hset⟩, hhot⟩ := h
        have B := blkOk_by h1
        have hgs := comps_eq hc
        subst hgs
        have hown2 := own_map own ow ho
        obtain ⟨tl, i1, i2⟩ := snd src g X W _ C h3
        have B' : BlkOk X.N X.env.scope scope ow := by rw [C.N, C.sc]; exact B
        have sub : ∀ i ∈ slotsG tg, i ∈ own := fun i hi => by
          have := List.all_eq_true.mp hown i hi
          simpa using this
        obtain ⟨tg', hg1, hg2⟩ := all_PG (Xs := fun b : Blk => b.cx X scope) (K := X.K) (M := M) fun b => tgt (C.blk hhot scope b.s b.H b.A b.cl b.fp) tg t h2
        obtain ⟨te, he1, he2⟩ := all_PE (Xs := fun b : Blk => b.cx X scope) (K := X.K) (W := W0) (M := M) fun b => snd elt (g.blk scope) (b.cx X scope) W0 elx (C.blk hhot scope b.s b.H b.A b.cl b.fp) h5
        have tests : ∃ tt, (∀ b : Blk, PTs (b.cx X scope) is tt) ∧ RdTurn M X.K tt te fun φ st => evIf S ifs φ st fun st => R.bs (evE S elt φ st) fun y st => some (.ok [y] st) := by
          match ifs, h4 with
          | [], h4 =>
            simp only [chkIfs, List.isEmpty_iff] at h4
            subst h4
            exact ⟨tYes, fun b => pts_nil, turn_nil he2⟩
          | c :: cs, h4 =>
            match cs, is, h4 with
            | [], [e'], h4 =>
              simp only [chkIfs] at h4
              obtain ⟨tt, t1, t2⟩ := all_PT (Xs := fun b : Blk => b.cx X scope) (K := X.K) (W := W0) (M := M) fun b => sndT c (g.blk scope) (b.cx X scope) W0 e' (C.blk hhot scope b.s b.H b.A b.cl b.fp) h4
              exact ⟨tt, fun b => pts_one (t1 b), turn_one t2 he2⟩
            | [], [], h4 => simp [chkIfs] at h4
            | [], _ :: _ :: _, h4 => simp [chkIfs] at h4
            | _ :: _, _, h4 => simp [chkIfs] at h4
        obtain ⟨tt, t1, t2⟩ := tests
        refine ⟨_, pe_lc (C.calm hhot) C.nd (pi_list i1) B' (fun s H A cl fp => hg1 ⟨s, H, A, cl, fp⟩) (fun s H A cl fp => t1 ⟨s, H, A, cl, fp⟩) (fun s H A cl fp => he1 ⟨s, H, A, cl, fp⟩) (fun x => noFold hset X.env x), ?_⟩
        rw [hown2]
        exact rd_lcW i2 hg2 sub t2
      · cases h
    · cases h
  | .frz a, g, X, W, e, C, h => by
    simp only [chkE] at h
    obtain ⟨t, h1, h2⟩ := snd a g X W _ C h
    exact ⟨t, h1, rd_frz h2⟩
  | .fld c a f, g, X, W, e, C, h => by
    unfold chkE at h
    split at h
    · rename_i x n pos
      simp only [Bool.and_eq_true, decide_eq_true_eq] at h
      obtain ⟨⟨⟨h1, h2⟩, h3⟩, h4⟩ := h
      exact se_fld C h1 h2 h3 (snd a g X W _ C h4)
    · cases h
  | .mcall c f a es, g, X, W, e, C, h => by
    unfold chkE at h
    split at h
    · rename_i o n apos xs cpos
      simp only [Bool.and_eq_true, decide_eq_true_eq, Bool.not_eq_true'] at h
      obtain ⟨⟨⟨⟨⟨⟨h1, h2⟩, h3⟩, h4⟩, h5⟩, h6⟩, h7⟩ := h
      exact se_mcall C h1 h2 h3 h4 h5 (snd a g X W _ C h6) (snds es g X W _ C h7)
    · cases h
  | .new c f es, g, X, W, e, C, h => by
    unfold chkE at h
    split at h
    · rename_i x p xs pos
      simp only [Bool.and_eq_true, decide_eq_true_eq, Bool.not_eq_true'] at h
      obtain ⟨⟨⟨h1, h2⟩, h3⟩, h4⟩ := h
      exact se_new C h1 h2 h3 (snds es g X W _ C h4)
    · cases h
  | .xfld i f, g, X, W, e, C, h => by
    unfold chkE at h
    split at h
    · simp only [Bool.and_eq_true, decide_eq_true_eq] at h
      obtain ⟨⟨⟨h1, h2⟩, h3⟩, h4⟩ := h
      exact se_xfld C h1 h2 h3 h4
    · cases h
  | .xisi i c, g, X, W, e, C, h => by
    unfold chkE at h
    split at h
    · simp only [Bool.and_eq_true, decide_eq_true_eq, Option.map_eq_some_iff] at h
      obtain ⟨⟨⟨⟨⟨⟨h1, h2⟩, h3⟩, h4⟩, h5⟩, h6⟩, ei, h7, h8⟩ := h
      subst h1
      exact se_xisi C h3 h4 h5 h2 h6 h7 h8
    · cases h
theorem snds : ∀ (ms : List ME) (g : SC) (X : Cx) (W : WX) (es : List Expr), Cok X g M S W k → chkEs g ms es = true → SEs X M S W ms es
  | [], g, X, W, es, C, h => by
    simp only [chkEs, List.isEmpty_iff] at h
    exact h
  | m :: ms, g, X, W, [], C, h => by simp [chkEs] at h
  | m :: ms, g, X, W, e :: es, C, h => by
    simp only [chkEs, Bool.and_eq_true, Bool.not_eq_true'] at h
    exact ⟨e, es, rfl, h.1.1, snd m g X W e C h.1.2, snds ms g X W es C h.2⟩
theorem sndT : ∀ (m : MT) (g : SC) (X : Cx) (W : WX) (e : Expr), Cok X g M S W k → chkT g m e = true → ST X M S W m e
  | .val m, g, X, W, e, C, h => by
    simp only [chkT, Bool.and_eq_true] at h
    obtain ⟨hp, h⟩ := h
    obtain ⟨t, h1, h2⟩ := snd m g X W _ C h
    exact ⟨_, pt_truth h1 (plain_true hp), fun σ H Q φ F ρ st r hh hs e p => rd_tru1 h2 σ H Q φ F ρ st r hh hs (by simp only [evT] at e; exact e) p⟩
  | .cmp op a b, g, X, W, e, C, h => by
    unfold chkT at h
    split at h
    · simp only [Bool.and_eq_true, decide_eq_true_eq, Bool.not_eq_true'] at h
      obtain ⟨⟨⟨h1, hs⟩, h2⟩, h3⟩ := h
      subst h1
      obtain ⟨ta, a1, a2⟩ := snd a g X W _ C h2
      obtain ⟨tb, b1, b2⟩ := snd b g X W _ C h3
      exact ⟨_, pt_cmpR (op_cmp C.un op) a1 b1 (noSet hs _), fun σ H Q φ F ρ st r hh hs e p => rd_cmpT a2 b2 op σ H Q φ F ρ st r hh hs (by simp only [evT] at e; exact e) p⟩
    · cases h
  | .chain o1 o2 a b c, g, X, W, e, C, h => by
    unfold chkT at h
    split at h
    · simp only [Bool.and_eq_true, decide_eq_true_eq, Bool.not_eq_true'] at h
      obtain ⟨⟨⟨⟨⟨⟨h1, h2⟩, h3⟩, h4⟩, h5⟩, h6⟩, h7⟩ := h
      subst h1 h2
      obtain ⟨ta, a1, a2⟩ := snd a g X W _ C h5
      obtain ⟨tb, b1, b2⟩ := snd b g X W _ C h6
      obtain ⟨tc, c1, c2⟩ := snd c g X W _ C h7
      exact ⟨_, pt_chain (op_cmp C.un o1) (op_cmp C.un o2) a1 b1 c1 (show lastMarks _ _ = false from noSet h4 _), fun σ H Q φ F ρ st r hh hs e p => rd_chain a2 b2 c2 o1 o2 σ H Q φ F ρ st r hh hs (by simp only [evT] at e; exact e) p⟩
    · cases h
  | .isn neg a, g, X, W, e, C, h => by
    unfold chkT at h
    split at h
    · simp only [Bool.and_eq_true, decide_eq_true_eq] at h
      obtain ⟨h1, h2⟩ := h
      subst h1
      obtain ⟨ta, a1, a2⟩ := snd a g X W _ C h2
      exact ⟨_, pt_cmpR (op_isNB neg) a1 pe_non (noSet rfl _), fun σ H Q φ F ρ st r hh hs e p => rd_isnT a2 σ H Q φ F ρ st r hh hs (by simp only [evT] at e; exact e) p⟩
    · cases h
  | .boolop c ts, g, X, W, e, C, h => by
    cases e <;> simp only [chkT, Bool.and_eq_true, decide_eq_true_eq, Bool.not_eq_true', Bool.false_eq_true] at h
    obtain ⟨⟨h1, h2⟩, h3⟩ := h
    subst h1
    obtain ⟨t, h4, h5⟩ := boolopT_ok c _ (by intro z; subst z; simp at h2) (sndTs ts g X W _ C h3)
    exact ⟨t, h4.pt, fun σ H Q φ F ρ st r hh hs e p => h5 σ H Q φ F ρ st r hh hs (by simpa only [evT] using e) p⟩
  | .not t, g, X, W, e, C, h => by
    unfold chkT at h
    split at h
    · obtain ⟨t', h1, h2⟩ := sndT t g X W _ C h
      exact ⟨_, pt_not h1, fun σ H Q φ F ρ st r hh hs e p => rd_notT h2 σ H Q φ F ρ st r hh hs (by simpa only [evT] using e) p⟩
    · cases h
theorem sndTs : ∀ (ms : List MT) (g : SC) (X : Cx) (W : WX) (es : List Expr), Cok X g M S W k → chkTs g ms es = true → STs X M S W ms es
  | [], g, X, W, es, C, h => by
    simp only [chkTs, List.isEmpty_iff] at h
    exact h
  | m :: ms, g, X, W, [], C, h => by simp [chkTs] at h
  | m :: ms, g, X, W, e :: es, C, h => by
    simp only [chkTs, Bool.and_eq_true] at h
    exact ⟨e, es, rfl, sndT m g X W e C h.1, sndTs ms g X W es C h.2⟩
end
end
end Z
end

section
/-! ZQ: statements. -/
namespace Z
open PySem PySem.Spec PyProof.Rows L2
/-! ### the look -/
def bkd (g : SC) : ScopeKind := if g.sc.kind.isAnnotationScope then .function else g.sc.kind
/-- does `name = [..]` store within the comprehension -/
def swC (g : SC) (v : Expr) (t : Str) (tp : Pos) : Bool := match v with
  | .ListComp _ _ s _ | .SetComp _ _ s _ | .DictComp _ _ _ s _ => bkd g == .function && g.sc.names.lookup t == some .local && tp.line == v.pos.line && !(s.names.any fun (n, k) => n == t && (k == .local || k == .cell))
  | _ => false
def swNames (g : SC) (ts : List Expr) : List Str := ts.filterMap fun
    | .Name id pos => if g.sc.names.lookup id == some .local && pos.line == (ts.head?.map (·.pos.line)).getD 0 then some id else none
    | _ => none
def swp (g : SC) (ts vs : List Expr) : Option (Option (List Str)) :=
  if !(ts.length == 2 || ts.length == 3) || vs.length != ts.length || bkd g != .function then some none else
  if vs.any isStar then some none else
  if (swNames g ts).length != ts.length || (swNames g ts).eraseDups.length != (swNames g ts).length then some none else
  if vs.all (foldedForSure 8) then some none else
  if vs.all (constantsAlone 8) then none else some (some (swNames g ts))
theorem swp_ok {g : SC} {ts vs : List Expr} {env : Env} {k k' : Nat} {p p' : Pos} {r : Option (List Str)} (hs : env.scope = g.sc) (h : swp g ts vs = some r) : swappedStores [.Tuple ts k p] (.Tuple vs k' p') env = pure r := by
  have hb : env.blockKind = bkd g := by unfold Env.blockKind bkd; rw [hs]
  have hk : ∀ x, env.kindOf x = g.sc.names.lookup x := fun x => by unfold Env.kindOf; rw [hs]
  have hv : isStar = (fun e : Expr => match e with | .Starred .. => true | _ => false) := by funext e; cases e <;> rfl
  unfold swappedStores
  unfold swp at h
  rw [hv] at h
  simp only [pure_bind, hb, hk]
  by_cases h1 : (!(ts.length == 2 || ts.length == 3) || vs.length != ts.length || bkd g != .function) = true
  · rw [if_pos h1] at h
    refine (if_pos h1).trans ?_
    cases h; rfl
  rw [if_neg h1] at h
  refine (if_neg h1).trans ?_
  split at h
  · rename_i h2
    refine (if_pos h2).trans ?_
    cases h; rfl
  rename_i h2
  refine (if_neg h2).trans ?_
  by_cases h3 : ((swNames g ts).length != ts.length || (swNames g ts).eraseDups.length != (swNames g ts).length) = true
  · rw [if_pos h3] at h
    refine (if_pos h3).trans ?_
    cases h; rfl
  rw [if_neg h3] at h
  refine (if_neg h3).trans ?_
  by_cases h4 : vs.all (foldedForSure 8) = true
  · rw [if_pos h4] at h
    refine (if_pos h4).trans ?_
    cases h; rfl
  rw [if_neg h4] at h
  refine (if_neg h4).trans ?_
  by_cases h5 : vs.all (constantsAlone 8) = true
  · rw [if_pos h5] at h
    cases h
  rw [if_neg h5] at h
  refine (if_neg h5).trans ?_
  cases h; rfl
/-- which way an assignment goes -/
inductive Way where
  | plain | comp | par (ns : List Str)
def wayOf (g : SC) (t v : Expr) : Option Way := match t with
  | .Name x p => if swC g v x p then some .comp else some .plain
  | .Tuple ts _ _ => (match v with
    | .Tuple vs _ _ => (match swp g ts vs with
      | some none => some .plain
      | some (some ns) => some (.par ns)
      | none => none)
    | _ => some .plain)
  | .Subscript _ i _ => if isSlice i then none else some .plain
  | _ => none
def loc1 (g : SC) (x : Str) : Bool := decide (g.sc.names.lookup x = some .local)
/-- a, b = x, y by names -/
def parOk (g : SC) (ns : List Str) : MG → ME → Expr → Expr → Bool
  | .tp [.nm i, .nm j], .tup [_, _], .Tuple [.Name x _, .Name y _] _ _, .Tuple [a, b] _ _ => decide (i ≠ j) && loc1 g x && loc1 g y && decide (ns = [x, y])
  | .tp [.nm i, .nm j, .nm l], .tup [_, _, _], .Tuple [.Name x _, .Name y _, .Name z _] _ _, .Tuple [a, b, c] _ _ => decide (i ≠ j) && decide (i ≠ l) && decide (j ≠ l) && loc1 g x && loc1 g y && loc1 g z && decide (ns = [x, y, z])
  | _, _, _, _ => false
/-- what is looked at within an except suite -/
def SC.suite (g : SC) (i : Nat) : SC := { g with hot := true, exn := some i }
def isLc : ME → Expr → Bool
  | .lc .., .ListComp .. => true
  | _, _ => false
def wayOk (g : SC) (m : MG) (e : ME) (t v : Expr) : Bool := match wayOf g t v with
  | some .plain => true
  | some .comp => isLc e v
  | some (.par ns) => !g.hot && parOk g ns m e t v
  | none => false
mutual
def chkS (g : SC) : MS → Stmt → Bool
  | .pass, s => (match s with
    | .Pass _ => true
    | .Expr (.Constant (.str _) _ _) _ => true
    | _ => false)
  | .ex e, s => (match s with
    | .Expr x _ => !isComp x && chkE g e x
    | _ => false)
  | .asg m e, s => (match s with
    | .Assign [t] v _ => chkG g m t && chkE g e v && wayOk g m e t v
    | _ => false)
  | .asgI a i e, s => (match s with
    | .Assign [.Subscript o x _] v _ => !isSlice x && chkE g a o && chkE g i x && chkE g e v
    | _ => false)
  | .aug i op e, s => (match s with
    | .AugAssign (.Name x _) o v _ => decide (o = opB op) && decide (g.N[i]? = some x) && loc? g x && chkE g e v
    | _ => false)
  | .augI a i op e, s => (match s with
    | .AugAssign (.Subscript o x _) p v _ => decide (p = opB op) && !isSlice x && chkE g a o && chkE g i x && chkE g e v
    | _ => false)
  | .iff c a b, s => (match s with
    | .If c' a' b' _ => chkT g c c' && chkSs g a a' && chkSs g b b'
    | _ => false)
  | .whl c a, s => (match s with
    | .While c' a' [] _ => chkT g c c' && chkSs g a a'
    | _ => false)
  | .for_ tg ik src a, s => (match s with
    | .For t it a' [] _ => (match srcOf g ik t it with
      | some xs => chkG g tg t && chkEs g src xs && chkSs g a a' && !g.hot
      | none => false)
    | _ => false)
  | .forW tg src a, s => (match s with
    | .For t it a' [] _ => chkG g tg t && chkE g src it && chkSs g a a' && !isSet it && !g.hot
    | _ => false)
  | .ret e, s => (match s with
    | .Return (some x) _ => chkE g e x
    | _ => false)
  | .retN, s => (match s with
    | .Return none _ => true
    | _ => false)
  | .fset c a f e, s => (match s with
    | .Assign [.Attribute o n _] v _ => decide (g.T.fnames[f]? = some n) && (match g.T.cls[c]? with
      | some ci => ci.fields.contains f
      | none => false) && chkE g a o && chkE g e v
    | _ => false)
  | .faug c a f op e, s => (match s with
    | .AugAssign (.Attribute o n _) p v _ => decide (p = opB op) && decide (g.T.fnames[f]? = some n) && (match g.T.cls[c]? with
      | some ci => ci.fields.contains f
      | none => false) && chkE g a o && chkE g e v
    | _ => false)
  | .raise c es, s => (match s with
    | .Raise (some (.Call (.Name x _) xs [] _)) none _ => (match g.T.errs[c]? with
      | some ei => decide (ei.name = x) && gl? g x && chkEs g es xs && decide (xs.length = ei.np) && !g.hot
      | none => false)
    | _ => false)
  | .tryE body c slot suite, s => (match s with
    | .Try bs [.ExceptHandler (some (.Name x _)) (some n) (b₀ :: ss) _] [] [] _ => (match slot, g.T.errs[c]? with
      | some i, some ei => decide (ei.name = x) && gl? g x && decide (g.N[i]? = some n) && decide (g.sc.names.lookup n = some .local) && !g.hot && g.top && chkSs g body bs && chkSs (g.suite i) suite (b₀ :: ss)
      | _, _ => false)
    | _ => false)
  | .brk, s => (match s with
    | .Break _ => true
    | _ => false)
  | .cnt, s => (match s with
    | .Continue _ => true
    | _ => false)
def chkSs (g : SC) : List MS → List Stmt → Bool
  | [], ss => ss.isEmpty
  | m :: ms, ss => (match ss with
    | s :: ss => chkS g m s && chkSs g ms ss
    | [] => false)
end
section
variable {X : Cx} {g : SC} {M : Nm} {S : Sem} {W : WX} {k : Nat}
def SS (X : Cx) (M : Nm) (S : Sem) (W : WX) (m : MS) (s : Stmt) : Prop := ∃ t, PS X s t ∧ RdS M X.K W t (exS S m)
def SSs (X : Cx) (M : Nm) (S : Sem) (W : WX) (ms : List MS) (ss : List Stmt) : Prop := ∃ t, PSs X ss t ∧ RdS M X.K W t (exSs S ms)
/-! ### readings -/
theorem rd_seq {t u : TS} {f : Slots → Store → Option FR} {ms : List MS} (h : RdS M X.K W t f) (h' : RdS M X.K W u (exSs S ms)) :
    RdS M X.K W (tSeq t u) fun φ st => match f φ st with
      | some (.nx φ st) => exSs S ms φ st
      | r => r := by
  intro D σ H φ F ρ st r hh hs e p
  show t { D with nx := u D } σ H
  dsimp only at e
  cases q : f φ st with
  | none => rw [q] at e; cases e
  | some a =>
    rw [q] at e
    refine h _ σ H φ F ρ st a hh hs q ?_
    cases a with
    | nx φ1 st1 => exact fun F1 ρ1 H1 σ1 g1 h1 s1 => h' D σ1 H1 φ1 F1 ρ1 st1 r h1 s1 e (p.g g1)
    | rt v st1 => cases e; exact p
    | bk φ1 st1 => cases e; exact p
    | ct φ1 st1 => cases e; exact p
    | ex x φ1 st1 => cases e; exact p
theorem rd_drop {t : TE} {f : Slots → Store → Option ER} (h : RdE M X.K W t f) : RdS M X.K W (tDrop t) fun φ st => R.bf φ (f φ st) fun _ st => some (.nx φ st) := by
  intro D σ H φ F ρ st r hh hs e p
  refine h.bindS (U := fun _ H1 => D.nx σ H1) hh hs e p fun x st1 F1 ρ1 H1 v e1 g1 h1 r1 p1 => ?_
  simp only [Option.some.injEq] at e1
  subst e1
  exact p1 F1 ρ1 H1 σ (G.refl _ _ _) h1 (hs.g g1)
theorem rd_ret {t : TE} {f : Slots → Store → Option ER} (h : RdE M X.K W t f) : RdS M X.K W (tRet t) fun φ st => R.bf φ (f φ st) fun v st => some (.rt v st) := by
  intro D σ H φ F ρ st r hh hs e p
  refine h.bindS (U := D.rt) hh hs e p fun x st1 F1 ρ1 H1 v e1 g1 h1 r1 p1 => ?_
  simp only [Option.some.injEq] at e1
  subst e1
  exact p1 F1 ρ1 H1 v (G.refl _ _ _) h1 r1
theorem rd_asg {te : TE} {tg : TG} {f : Slots → Store → Option ER} {m : MG} (h : RdE M X.K W te f) (hg : RdG M X.K tg m) : RdS M X.K W (tAsg te tg) fun φ st => R.bf φ (f φ st) fun v st => (asgG m v φ).map fun φ => .nx φ st := by
  intro D σ H φ F ρ st r hh hs e p
  refine h.bindS (U := fun x H1 => tg x σ H1 D.nx) hh hs e p fun x st1 F1 ρ1 H1 v e1 g1 h1 r1 p1 => ?_
  simp only [Option.map_eq_some_iff] at e1
  obtain ⟨φ1, e2, e3⟩ := e1
  subst e3
  exact hg x v φ φ1 σ F1 ρ1 H1 st1 _ h1 (hs.g g1) r1 e2 fun σ1 s1 _ => p1 F1 ρ1 H1 σ1 (G.refl _ _ _) h1 s1
theorem rd_if {tc : TT} {t u : TS} {f : Slots → Store → Option ET} {a b : Slots → Store → Option FR} (hc : RdT M X.K W tc f) (ha : RdS M X.K W t a) (hb : RdS M X.K W u b) :
    RdS M X.K W (tIfS tc t u) fun φ st => T.bf φ (f φ st) fun d st => if d then a φ st else b φ st := by
  intro D σ H φ F ρ st r hh hs e p
  refine hc.bindS (U := fun b H1 => if b = true then t D σ H1 else u D σ H1) hh hs e p fun d st1 F1 ρ1 H1 e1 g1 h1 p1 => ?_
  cases d with
  | true => exact ha D σ H1 φ F1 ρ1 st1 r h1 (hs.g g1) e1 p1
  | false => exact hb D σ H1 φ F1 ρ1 st1 r h1 (hs.g g1) e1 p1
theorem rd_while {tc : TT} {tb : TS} {f : Slots → Store → Option ET} {a : Slots → Store → Option FR} {n : Nat} (hc : RdT M X.K W tc f) (hb : RdS M X.K W tb a) : RdS M X.K W (tWhile tc tb) (whLoop f a n) := by
  intro D σ H φ F ρ st r hh hs e p
  obtain ⟨Inv, hInv⟩ : ∃ Inv : Nat → L2.St → Hp → Prop, Inv = fun m σ' H' => ∃ φ F2 ρ2 st2, G F ρ H F2 ρ2 H' ∧ HR' M X.K F2 ρ2 H' st2 ∧ SL M X.K F2 ρ2 σ' φ ∧ whLoop f a m φ st2 = some r := ⟨_, rfl⟩
  refine ⟨Inv, ⟨n, by rw [hInv]; exact ⟨φ, F, ρ, st, G.refl _ _ _, hh, hs, e⟩⟩, ?_⟩
  intro m σ1 H1 hI
  rw [hInv] at hI
  obtain ⟨φ1, F1, ρ1, st1, g1, h1, s1, e1⟩ := hI
  cases m with
  | zero => cases e1
  | succ m =>
    unfold whLoop at e1
    refine hc.bindS (U := fun b H2 => if b = true then ∃ N : L2.St → Hp → Prop, (∀ σ' H', N σ' H' → ∃ m', m' < m + 1 ∧ Inv m' σ' H') ∧ tb { D with nx := N, ct := N, bk := D.nx } σ1 H2 else D.nx σ1 H2) h1 s1 e1 (p.g g1) fun b st2 F2 ρ2 H2 e2 g2 h2 p2 => ?_
    cases b with
    | false =>
      rw [if_neg Bool.false_ne_true]
      simp only [Bool.false_eq_true, if_false, Option.some.injEq] at e2
      subst e2
      exact p2 F2 ρ2 H2 σ1 (G.refl _ _ _) h2 (s1.g g2)
    | true =>
      rw [if_pos rfl]
      refine ⟨Inv m, fun σ' H' q => ⟨m, Nat.lt_succ_self m, q⟩, ?_⟩
      simp only [if_true] at e2
      cases q : a φ1 st2 with
      | none => rw [q] at e2; cases e2
      | some r2 =>
        rw [q] at e2
        refine hb _ σ1 H2 φ1 F2 ρ2 st2 r2 h2 (s1.g g2) q ?_
        cases r2 with
        | nx φ3 st3 => exact fun F3 ρ3 H3 σ3 g3 h3 s3 => by rw [hInv]; exact ⟨φ3, F3, ρ3, st3, (g1.trans g2).trans g3, h3, s3, e2⟩
        | ct φ3 st3 => exact fun F3 ρ3 H3 σ3 g3 h3 s3 => by rw [hInv]; exact ⟨φ3, F3, ρ3, st3, (g1.trans g2).trans g3, h3, s3, e2⟩
        | bk φ3 st3 => cases e2; exact fun F3 ρ3 H3 σ3 g3 h3 s3 => p2 F3 ρ3 H3 σ3 g3 h3 s3
        | rt v st3 => cases e2; exact p2
        | ex x φ3 st3 => cases e2; exact p2
theorem rd_for {wi : TI} {tg : TG} {tb : TS} {m : MG} {ik : IK} {src : List ME} {body : List MS} (hi : RdI M X.K W S wi ik src) (hg : RdG M X.K tg m) (hb : RdS M X.K W tb (exSs S body)) : RdS M X.K W (tFor wi tg tb) (exS S (.for_ m ik src body)) := by
  intro D σ H φ F ρ st r hh hs e post
  obtain ⟨hok, hex⟩ := hi σ H _ φ F ρ st hh hs
  simp only [exS] at e
  cases q : evEs S src φ st with
  | none => rw [q] at e; cases e
  | some rs =>
    rw [q] at e
    cases rs with
    | ex x st1 =>
      have e' : r = .ex x φ st1 := (Option.some.inj e).symm
      subst e'
      exact hex x st1 q fun F1 ρ1 H1 cls d g1 h1 x1 => post F1 ρ1 H1 σ cls d g1 h1 (hs.g g1) x1
    | ok vs st1 =>
      simp only [Rs.bf] at e
      cases qu : unpv vs with
      | none => simp [qu] at e
      | some ps =>
        simp only [qu] at e
        cases qi : items ik ps with
        | none => simp [qi] at e
        | some xs =>
          simp only [qi] at e
          refine hok vs st1 ps xs q qu qi fun F1 ρ1 H1 J g1 h1 ito => ?_
          obtain ⟨step, hstep⟩ : ∃ step : PV → Slots → Store → Option FR, step = fun x φ st => match asgG m (.pv x) φ with
            | some φ => exSs S body φ st
            | none => none := ⟨_, rfl⟩
          have e : forLoop step xs φ st1 = some r := by rw [hstep]; exact e
          obtain ⟨Inv, hInv⟩ : ∃ Inv : Nat → L2.St → Hp → Prop, Inv = fun i σ' H' => i ≤ xs.length ∧ ∃ φ F2 ρ2 st2, G F1 ρ1 H1 F2 ρ2 H' ∧ HR' M X.K F2 ρ2 H' st2 ∧ SL M X.K F2 ρ2 σ' φ ∧ forLoop step (xs.drop i) φ st2 = some r := ⟨_, rfl⟩
          refine ⟨fun i n σ' H' => n = xs.length - i ∧ Inv i σ' H', ⟨xs.length, by simp, by rw [hInv]; exact ⟨Nat.zero_le _, φ, F1, ρ1, st1, G.refl _ _ _, h1, hs.g g1, by simpa using e⟩⟩, ?_⟩
          rintro i n σ2 H2 ⟨rfl, hI⟩
          rw [hInv] at hI
          obtain ⟨hi, φ2, F2, ρ2, st2, g2, h2, s2, e2⟩ := hI
          by_cases hlt : i < xs.length
          · refine .inr ?_
            have hx : xs[i]? = some xs[i] := List.getElem?_eq_getElem hlt
            obtain ⟨hgo, hy⟩ := ito.at_ i xs[i] F2 H2 hx g2.sub h2.sub
            rw [List.drop_eq_getElem_cons hlt] at e2
            unfold forLoop at e2
            refine ⟨hgo, Inv (i + 1), fun σ' H' hN => ⟨xs.length - (i + 1), by omega, rfl, hN⟩, fun x H' hyl => ?_⟩
            have item : ∃ F3 , G F2 ρ2 H2 F3 ρ2 H' ∧ HR' M X.K F3 ρ2 H' st2 ∧ RP X.K F3 xs[i] x := by
              rcases hy x H' hyl with ⟨e1, e2⟩ | ⟨T, o, e0, e1, e2⟩
              · subst e1
                exact ⟨F2, G.refl _ _ _, h2, e2⟩
              · subst e1
                obtain ⟨g3, h3⟩ := h2.new e0 o
                exact ⟨_, g3, h3, e2⟩
            obtain ⟨F3, g3, h3, rx⟩ := item
            cases qs : step xs[i] φ2 st2 with
            | none => rw [qs] at e2; cases e2
            | some r3 =>
              rw [qs] at e2
              rw [hstep] at qs
              cases qa : asgG m (.pv xs[i]) φ2 with
              | none => simp [qa] at qs
              | some φ3 =>
                simp only [qa] at qs
                refine hg (.pv xs[i]) x φ2 φ3 σ2 F3 ρ2 H' st2 _ h3 (s2.g g3) (by simp only [RL]; exact rx) qa fun σ3 s3 _ => ?_
                refine hb _ σ3 H' φ3 F3 ρ2 st2 r3 h3 s3 qs ?_
                have gg := (g2.trans g3)
                cases r3 with
                | nx φ4 st4 => exact fun F4 ρ4 H4 σ4 g4 h4 s4 => by rw [hInv]; exact ⟨hlt, φ4, F4, ρ4, st4, gg.trans g4, h4, s4, e2⟩
                | ct φ4 st4 => exact fun F4 ρ4 H4 σ4 g4 h4 s4 => by rw [hInv]; exact ⟨hlt, φ4, F4, ρ4, st4, gg.trans g4, h4, s4, e2⟩
                | bk φ4 st4 => cases e2; exact fun F4 ρ4 H4 σ4 g4 h4 s4 => post F4 ρ4 H4 σ4 ((g1.trans gg).trans g4) h4 s4
                | rt v st4 => cases e2; exact (post.g g1).g gg
                | ex x φ4 st4 => cases e2; exact (post.g g1).g gg
          · have hi' : i = xs.length := by omega
            subst hi'
            refine .inl ⟨ito.stop F2 H2 g2.sub h2.sub, ?_⟩
            rw [List.drop_length] at e2
            simp only [forLoop, Option.some.injEq] at e2
            subst e2
            exact post F2 ρ2 H2 σ2 (g1.trans g2) h2 s2
/-- a list walked where it stands -/
theorem rd_forW {tg : TG} {tb : TS} {tl : TE} {m : MG} {src : ME} {body : List MS} (hi : RdE M X.K W tl (evE S src)) (hg : RdG M X.K tg m) (hb : RdS M X.K W tb (exSs S body)) : RdS M X.K W (tFor (iList X.K tl) tg tb) (exS S (.forW m src body)) := by
  intro D σ H φ F ρ st r hh hs e post
  simp only [exS] at e
  show tl σ H _
  refine hi.bindS hh hs e post fun v st1 F1 ρ1 H1 w e1 g1 h1 r1 p1 => ?_
  cases v with
  | pv _ => simp at e1
  | tup _ => simp at e1
  | exn _ => simp at e1
  | ref n =>
    simp only at e1
    simp only [RL] at r1
    obtain ⟨a, ew, ea⟩ := r1
    subst ew
    obtain ⟨step, hstep⟩ : ∃ step : LV → Slots → Store → Option FR, step = fun x φ st => match asgG m x φ with
      | some φ => exSs S body φ st
      | none => none := ⟨_, rfl⟩
    have e : forWalk step n (walkF n st1) 0 φ st1 = some r := by rw [hstep]; exact e1
    have there : ∃ xs, SqL X.K H1 a xs := by
      obtain ⟨c, ec, hc⟩ := h1.at ea
      unfold walkF at e
      rw [ec] at e
      cases c with
      | lst live ys => obtain ⟨vs, h1, _⟩ := hc; exact ⟨vs, .inl (.inl h1)⟩
      | dk _ _ => simp [forWalk] at e
      | dt _ _ => simp [forWalk] at e
      | ins _ _ => simp [forWalk] at e
    refine ⟨a, rfl, there, ?_⟩
    obtain ⟨Inv, hInv⟩ : ∃ Inv : Nat → Nat → L2.St → Hp → Prop, Inv = fun i f σ' H' => ∃ φ F2 ρ2 st2, G F1 ρ1 H1 F2 ρ2 H' ∧ HR' M X.K F2 ρ2 H' st2 ∧ SL M X.K F2 ρ2 σ' φ ∧ forWalk step n f i φ st2 = some r := ⟨_, rfl⟩
    refine ⟨fun i f σ' H' => Inv i f σ' H', ⟨walkF n st1, by rw [hInv]; exact ⟨φ, F1, ρ1, st1, G.refl _ _ _, h1, hs.g g1, e⟩⟩, ?_⟩
    rintro i f σ2 H2 hI
    rw [hInv] at hI
    obtain ⟨φ2, F2, ρ2, st2, g2, h2, s2, e2⟩ := hI
    cases f with
    | zero => simp [forWalk] at e2
    | succ f =>
      unfold forWalk at e2
      have ea2 : ρ2[n]? = some a := g2.pre _ _ ea
      obtain ⟨c, ec, hc⟩ := h2.at ea2
      rw [ec] at e2
      cases c with
      | dk _ _ => simp at e2
      | dt _ _ => simp at e2
      | ins _ _ => simp at e2
      | lst live ys =>
        simp only at e2
        obtain ⟨vs, hv1, hv2, _⟩ := hc
        have hq : SqL X.K H2 a vs := .inl (.inl hv1)
        cases hx : ys[i]? with
        | none =>
          rw [hx] at e2
          simp only [Option.some.injEq] at e2
          subst e2
          refine .inl ⟨⟨vs, hq, ?_⟩, p1 F2 ρ2 H2 σ2 g2 h2 s2⟩
          rw [← hv2.length]
          exact List.getElem?_eq_none_iff.mp hx
        | some x =>
          rw [hx] at e2
          simp only at e2
          obtain ⟨u, hu1, hu2⟩ := hv2.get hx
          refine .inr ⟨⟨vs, u, hq, hu1⟩, Inv (i + 1) f, fun σ' H' hN => ⟨f, Nat.lt_succ_self _, hN⟩, fun y H' hyl => ?_⟩
          obtain ⟨eH, hy⟩ := hyl
          subst eH
          have hy2 := hy vs hq
          rw [hu1] at hy2
          cases hy2
          cases qs : step x φ2 st2 with
          | none => rw [qs] at e2; cases e2
          | some r3 =>
            rw [qs] at e2
            rw [hstep] at qs
            cases qa : asgG m x φ2 with
            | none => simp [qa] at qs
            | some φ3 =>
              simp only [qa] at qs
              refine hg x u φ2 φ3 σ2 F2 ρ2 H' st2 _ h2 s2 hu2 qa fun σ3 s3 _ => ?_
              refine hb _ σ3 H' φ3 F2 ρ2 st2 r3 h2 s3 qs ?_
              cases r3 with
              | nx φ4 st4 => exact fun F4 ρ4 H4 σ4 g4 h4 s4 => by rw [hInv]; exact ⟨φ4, F4, ρ4, st4, g2.trans g4, h4, s4, e2⟩
              | ct φ4 st4 => exact fun F4 ρ4 H4 σ4 g4 h4 s4 => by rw [hInv]; exact ⟨φ4, F4, ρ4, st4, g2.trans g4, h4, s4, e2⟩
              | bk φ4 st4 => cases e2; exact fun F4 ρ4 H4 σ4 g4 h4 s4 => p1 F4 ρ4 H4 σ4 (g2.trans g4) h4 s4
              | rt v st4 => cases e2; exact p1.g g2
              | ex x φ4 st4 => cases e2; exact p1.g g2
/-! ### a op= b -/
def rAugZ (op : BO) : R2 := fun x y H Q => rAug op x y H Q ∨ (op = .add ∧ rExt2 x y H Q)
theorem op_augZ (op : BO) : OpR X (inplaceOp (opB op)) (rAugZ op) := by
  intro pins s σ H x y v u Q I rx ry h
  rcases h with h | ⟨e, h⟩
  · exact op_aug op pins s σ H x y v u Q I rx ry h
  · subst e
    exact iop_ext pins s σ H x y v u Q I rx ry h
theorem rd_augP {F H : Hp} {ρ : List Addr} {st : Store} {σ : L2.St} {op : BO} {p q z : PV} {v w : V} {Q : VK} (hh : HR' M X.K F ρ H st) (hp : PK X.K F H p v) (hq : PK X.K F H q w) (e : doAug op p q = some z) (post : PostE M X.K W σ F ρ H Q (.ok (.pv z) st)) : rAug op v w H Q := by
  cases op <;> cases p <;> simp only [doAug, doBin, reduceCtorEq] at e <;> cases q <;> simp only [doBin, Option.some.injEq, reduceCtorEq] at e
  case add.int.int i j => subst e; exact .inl ⟨i, j, hp.int, hq.int, post.tree hh (by simp only [RP])⟩
  case add.str.str x y =>
    split at e
    · rename_i hl
      simp only [Option.some.injEq] at e
      subst e
      refine .inr ⟨mkS x, mkS y, hp.str.1, hq.str.1, by rw [mkS_len, mkS_len, line_eq]; exact hl, post.tree hh ?_⟩
      simp only [RP]
      exact ⟨by rw [mkS_append], okS_append hp.str.2 hq.str.2⟩
    · cases e
  case sub.int.int i j => subst e; exact ⟨i, j, hp.int, hq.int, post.tree hh (by simp only [RP])⟩
  case mul.int.int i j =>
    split at e
    · rename_i hl
      simp only [Option.some.injEq] at e
      subst e
      exact ⟨i, j, hp.int, hq.int, mulOk_ok hl, post.tree hh (by simp only [RP])⟩
    · cases e
  case fdiv.int.int i j =>
    split at e
    · rename_i hl
      simp only [Option.some.injEq] at e
      subst e
      exact ⟨i, j, hp.int, hq.int, divOk_ok hl, post.tree hh (by simp only [RP])⟩
    · cases e
  case mod.int.int i j =>
    split at e
    · rename_i hl
      simp only [Option.some.injEq] at e
      subst e
      exact ⟨i, j, hp.int, hq.int, hl, post.tree hh (by simp only [RP])⟩
    · cases e
theorem sq_okQ {F H : Hp} {ρ : List Addr} {st : Store} {y : LV} {w : V} {ys : List LV} (hh : HR' M X.K F ρ H st) (r : RL X.K F ρ y w) (e : sq st y = some ys) : ∃ b ws, w = .ref b ∧ H b = some (.lst ws) ∧ RLs X.K F ρ ys ws := by
  cases y with
  | tup _ => simp [sq] at e
  | exn _ => simp [sq] at e
  | pv p =>
    cases p <;> simp only [sq, Option.some.injEq, reduceCtorEq] at e
    subst e
    simp only [RL, RP] at r
    obtain ⟨b, ws, e1, e2, e3⟩ := r
    exact ⟨b, ws, e1, hh.sub _ _ e2, RLs_pv.mpr e3⟩
  | ref n =>
    simp only [RL] at r
    obtain ⟨b, e1, e2⟩ := r
    obtain ⟨c, ec, hc⟩ := hh.at e2
    simp only [sq, ec] at e
    cases c <;> simp only [Option.some.injEq, reduceCtorEq] at e
    subst e
    obtain ⟨ws, h1, h2, _⟩ := hc
    exact ⟨b, ws, e1, h1, h2⟩
theorem rd_augOp (op : BO) : RdV2 M X.K W (rAugZ op) (augOp op) := by
  intro σ H Q F ρ st x y v w res hh rx ry e p
  cases x with
  | tup _ => simp [augOp] at e
  | exn _ => simp [augOp] at e
  | pv a =>
    simp only [augOp] at e
    split at e
    · rename_i q hq
      cases ez : doAug op a q with
      | none => simp [ez, okP] at e
      | some z =>
        simp only [ez, okP, Option.some.injEq] at e
        subst e
        exact .inl (rd_augP hh (peek_ok hh rx (by simp only [peek])) (peek_ok hh ry hq) ez p)
    · cases e
  | ref n =>
    simp only [augOp] at e
    split at e
    · rename_i xs ys e1 e2
      split at e
      · rename_i hl
        simp only [Option.some.injEq] at e
        subst e
        simp only [RL] at rx
        obtain ⟨a, ea, en⟩ := rx
        obtain ⟨c, ec, hc⟩ := hh.at en
        rw [e1] at ec
        cases ec
        obtain ⟨vs, h1, h2, h3, _⟩ := hc
        obtain ⟨b, ws, eb, hb, rb⟩ := sq_okQ hh ry e2
        refine .inr ⟨rfl, a, b, vs, ws, ea, eb, h1, hb, by rw [← h2.length, ← rb.length, line_eq]; exact hl, ?_⟩
        obtain ⟨g2, hh2⟩ := hh.write en (h3 rfl) (o := .lst (vs ++ ws)) (c := .lst true (xs ++ ys)) ⟨_, upd_same, h2.append rb, fun _ => h3 rfl, fun z => Bool.noConfusion z⟩
        exact p _ _ _ _ g2 hh2 (by simp only [RL]; exact ⟨a, rfl, en⟩)
      · cases e
    · cases e
theorem rd_augS {te : TE} {f : Slots → Store → Option ER} {op : BO} {i : Nat} (h : RdE M X.K W te f) : RdS M X.K W (tAug i te (rAugZ op)) fun φ st => match φ[i]? with
    | some (some x) => R.bf φ (f φ st) fun y st => R.bf φ (augOp op x y st) fun z st => some (.nx (φ.set i (some z)) st)
    | _ => none := by
  intro D σ H φ F ρ st r hh hs e p
  dsimp only at e
  split at e
  · rename_i x hx
    obtain ⟨v, hv, rv⟩ := hs.2 i x hx
    refine ⟨v, hv, ?_⟩
    refine h.bindS (U := fun y H1 => rAugZ op v y H1 fun z H2 => D.nx (σ.set i (some z)) H2) hh hs e p fun y st1 F1 ρ1 H1 w e1 g1 h1 r1 p1 => ?_
    cases q : augOp op x y st1 with
    | none => rw [q] at e1; cases e1
    | some a =>
      rw [q] at e1
      have hx2 : ∀ z, x ≠ .exn z := fun z hz => by rw [hz] at q; simp [augOp] at q
      refine rd_augOp op σ H1 _ F1 ρ1 st1 x y v w a h1 (RL.mono g1.sub g1.pre _ _ (rv.rl hx2)) r1 q (W := W) ?_
      cases a with
      | ok z st2 =>
        cases e1
        exact fun F2 ρ2 H2 u g2 h2 r2 => p1 F2 ρ2 H2 _ g2 h2 ((hs.g (g1.trans g2)).set i r2)
      | ex x st2 =>
        cases e1
        exact fun F2 ρ2 H2 cls d g2 h2 x2 => p1 F2 ρ2 H2 σ cls d g2 h2 (hs.g (g1.trans g2)) x2
  · cases e
/-! ### a[i] = x -/
def rSetD : V → V → V → Hp → (Hp → Prop) → Prop := fun o i v H Q => ∃ a H', o = .ref a ∧ DPut H a i v H' ∧ Q H'
def rSetZ : V → V → V → Hp → (Hp → Prop) → Prop := fun o i v H Q => rSetL o i v H Q ∨ rSetD o i v H Q
theorem set_Z (hu : room2 X) : PSet X rSetZ := by
  intro pins s σ H o i v ov iv u Q I ro ri rv h
  rcases h with h | ⟨a, H', e, g, q⟩
  · exact set_list pins s σ H o i v ov iv u Q I ro ri rv h
  · subst e
    obtain rfl : ov = Value.ref a := ro
    exact d_setItem (by have h1 : X.A.units + 600 < cLine := hu; omega) I g ri rv fun s4 I4 => ⟨H', I4, q⟩
section
variable {K : PySem.W.Frag} {F : Hp} {ρ : List Addr}
theorem any_t {k : List Ky} : ∀ {kvs : List (List Ky × LV)} {ks : List (List Key × V)}, RLt K F ρ kvs ks → (ks.any fun kv => decide (kv.1 = k.map kyS)) = has k kvs
  | [], ks, h => by simp only [RLt] at h; subst h; rfl
  | (j, p) :: r, ks, h => by
    simp only [RLt] at h
    obtain ⟨v, s, e1, e2, e3, e4⟩ := h
    subst e1
    by_cases hj : j = k
    · subst hj; simp [has, look]
    · have hn : ¬ j.map kyS = k.map kyS := fun e => hj (kySs_inj e)
      have ih := any_t (k := k) e4
      simp only [has, look, if_neg hj, List.any_cons, hn, decide_false, Bool.false_or] at ih ⊢
      exact ih
theorem map_t {k : List Ky} {x : LV} {v : V} (rx : RL K F ρ x v) : ∀ {kvs : List (List Ky × LV)} {ks : List (List Key × V)}, RLt K F ρ kvs ks → RLt K F ρ (kvs.map fun kv => if kv.1 = k then (kv.1, x) else kv) (ks.map fun kv => if kv.1 = k.map kyS then (kv.1, v) else kv)
  | [], ks, h => by simp only [RLt] at h; subst h; simp [RLt]
  | (j, p) :: r, ks, h => by
    simp only [RLt] at h
    obtain ⟨w, s, e1, e2, e3, e4⟩ := h
    subst e1
    have ih := map_t (k := k) rx e4
    by_cases hj : j = k
    · subst hj
      simp only [List.map_cons, if_true, RLt]
      exact ⟨v, _, rfl, e2, rx, ih⟩
    · have hn : ¬ j.map kyS = k.map kyS := fun e => hj (kySs_inj e)
      simp only [List.map_cons, if_neg hj, if_neg hn, RLt]
      exact ⟨w, _, rfl, e2, e3, ih⟩
theorem snoc_t {k : List Ky} {x : LV} {v : V} (hk : k.all okK = true) (rx : RL K F ρ x v) : ∀ {kvs : List (List Ky × LV)} {ks : List (List Key × V)}, RLt K F ρ kvs ks → RLt K F ρ (kvs ++ [(k, x)]) (ks ++ [(k.map kyS, v)])
  | [], ks, h => by simp only [RLt] at h; subst h; simp only [List.nil_append, RLt]; exact ⟨v, [], rfl, hk, rx, rfl⟩
  | (j, p) :: r, ks, h => by
    simp only [RLt] at h
    obtain ⟨w, s, e1, e2, e3, e4⟩ := h
    subst e1
    simp only [List.cons_append, RLt]
    exact ⟨w, _, rfl, e2, e3, snoc_t hk rx e4⟩
theorem put_t {k : List Ky} {x : LV} {v : V} {kvs : List (List Ky × LV)} {ks : List (List Key × V)} (hk : k.all okK = true) (rx : RL K F ρ x v) (h : RLt K F ρ kvs ks) : RLt K F ρ (putD k x kvs) (putK ks (k.map kyS) v) := by
  unfold putD putK
  rw [any_t h]
  split
  · exact map_t rx h
  · exact snoc_t hk rx h
theorem len_k : ∀ {kvs : List (Ky × LV)} {ks : List (Key × V)}, RLk K F ρ kvs ks → kvs.length = ks.length
  | [], ks, h => by simp only [RLk] at h; subst h; rfl
  | (j, p) :: r, ks, h => by
    simp only [RLk] at h
    obtain ⟨w, s, e1, e2, e3, e4⟩ := h
    subst e1
    simp [len_k e4]
theorem len_t : ∀ {kvs : List (List Ky × LV)} {ks : List (List Key × V)}, RLt K F ρ kvs ks → kvs.length = ks.length
  | [], ks, h => by simp only [RLt] at h; subst h; rfl
  | (j, p) :: r, ks, h => by
    simp only [RLt] at h
    obtain ⟨w, s, e1, e2, e3, e4⟩ := h
    subst e1
    simp [len_t e4]
end
theorem rd_setI {F H : Hp} {ρ : List Addr} {st st' : Store} {x y z : LV} {v w u : V} {Q : Hp → Prop} (hh : HR' M X.K F ρ H st) (rx : RL X.K F ρ x v) (ry : RL X.K F ρ y w) (rz : RL X.K F ρ z u) (e : setI x y z st = some st')
    (q : ∀ H', G F ρ H F ρ H' → HR' M X.K F ρ H' st' → Q H') : rSetZ v w u H Q := by
  cases x with
  | pv _ => simp [setI] at e
  | tup _ => simp [setI] at e
  | exn _ => simp [setI] at e
  | ref n =>
    simp only [setI] at e
    simp only [RL] at rx
    obtain ⟨a, ea, en⟩ := rx
    obtain ⟨c, ec, hc⟩ := hh.at en
    split at e
    · rename_i xs i e1
      rw [e1] at ec
      cases ec
      split at e
      · rename_i j hj
        simp only [Option.some.injEq] at e
        subst e
        obtain ⟨vs, h1, h2, h3, _⟩ := hc
        simp only [RL, RP] at ry
        refine .inl ⟨a, vs, i, j, ea, ry, h1, by rw [← h2.length]; exact hj, ?_⟩
        obtain ⟨g2, hh2⟩ := hh.write en (h3 rfl) (o := .lst (vs.set j u)) (c := .lst true (xs.set j z)) ⟨_, upd_same, h2.set rz j, fun _ => h3 rfl, fun z => Bool.noConfusion z⟩
        exact q _ g2 hh2
      · cases e
    · rename_i kvs k e1
      rw [e1] at ec
      cases ec
      split at e
      · rename_i ky hk
        split at e
        · rename_i hl
          simp only [Option.some.injEq] at e
          subst e
          obtain ⟨ks, h1, h2, h3, _⟩ := hc
          have pk := peek_ok hh ry (p := k) (by simp only [peek])
          obtain ⟨k1, k2⟩ := kV_of hk pk
          refine .inr ⟨a, _, ea, by rw [k1]; exact DPut.k h1 (by rw [← len_k h2, line_eq]; exact hl), ?_⟩
          obtain ⟨g2, hh2⟩ := hh.write en (h3 rfl) (o := .dK (putK ks (kyS ky) u)) (c := .dk true (putD ky z kvs)) ⟨_, upd_same, put_k k2 rz h2, fun _ => h3 rfl, fun z => Bool.noConfusion z⟩
          exact q _ g2 hh2
        · cases e
      · cases e
    · rename_i kvs k e1
      rw [e1] at ec
      cases ec
      split at e
      · rename_i ky hk
        split at e
        · rename_i hl
          simp only [Option.some.injEq] at e
          subst e
          obtain ⟨ks, h1, h2, h3, _⟩ := hc
          have pk := peek_ok hh ry (p := k) (by simp only [peek])
          obtain ⟨b, k1, k2⟩ := kT_of hh.sub hk pk
          have k3 := kT_ok hk pk
          refine .inr ⟨a, _, ea, by rw [k1]; exact DPut.t h1 k2 (by rw [← len_t h2, line_eq]; exact hl), ?_⟩
          obtain ⟨g2, hh2⟩ := hh.write en (h3 rfl) (o := .dT (putK ks (ky.map kyS) u)) (c := .dt true (putD ky z kvs)) ⟨_, upd_same, put_t k3 rz h2, fun _ => h3 rfl, fun z => Bool.noConfusion z⟩
          exact q _ g2 hh2
        · cases e
      · cases e
    · cases e
end
end Z
end

section
/-! ZQa: raise. -/
namespace Z
open PySem PySem.Spec PyProof.Rows L2
section
variable {X : Cx} {g : SC} {M : Nm} {S : Sem} {W : WX} {k : Nat}
/-- C() behind raise, C without an own __init__ -/
theorem pmk0 {x : Str} {C : Addr} {p pos : Pos} (q : PySem.W.excIn X.K C He.veBase "ValueError.__new__" = true) (gC : X.mg x = some (.ref C)) (kC : PySem.W.keepIn X.K (.ref C) = true) (r : Raises X (.ref C)) (hg : Gl X x) (hdb : (x == ("__debug__" : Str)) = false) :
    L2N.PMk X (.Call (.Name x p) [] [] pos) (fun _ H Q => Q (.ref C) none H) := by
  intro pins s σ H Q I h
  refine wpAny_Call_Name_kw (ld_glob I hg gC ?_ hdb)
  refine PySem.W.callWith_K0 I.kIn kC ?_
  show wpAny _ _ (call (.ref C) []) _ _ _
  obtain ⟨bm, N, nm, qn, bs, hdct, sn, sub, ab, col, dd, k0, k1, k2, k3, k5, mN, hC, hN, hni, T⟩ := exc_obj I.kIn q
  exact wpAny_call_exc_subT PySem.F.excBase_ValueError T hC hN hni (fun h' er hm => L2N.mk_of I hm r h (I.hok.gone hm.new)) (Nat.zero_le _)
theorem ext_ok {K : PySem.W.Frag} {F : Hp} {ps : List PV} {ys : List V} (r : RPs K F ps ys) : ∀ {fl : List (Nat × Nat)} {acc fs : List (Nat × PV)} {va : List V}, RPs K F (acc.map (·.2)) va → extP ps acc fl = some fs →
    ∃ vs, extF ys ((acc.map fun f => M.fnm f.1).zip va) (fl.map fun q => (M.fnm q.1, q.2)) = some ((fs.map fun f => M.fnm f.1).zip vs) ∧ RPs K F (fs.map (·.2)) vs
  | [], acc, fs, va, ra, e => by
    simp only [extP, Option.some.injEq] at e
    subst e
    exact ⟨va, rfl, ra⟩
  | (f, i) :: fl, acc, fs, va, ra, e => by
    unfold extP at e
    split at e
    · rename_i p hp
      obtain ⟨v, h1, h2⟩ := r.get hp
      have ra' : RPs K F (((f, p) :: acc).map (·.2)) (v :: va) := by
        simp only [List.map_cons, RPs]
        exact ⟨v, va, rfl, h2, ra⟩
      obtain ⟨vs, h3, h4⟩ := ext_ok r ra' e
      refine ⟨vs, ?_, h4⟩
      simp only [List.map_cons, extF, h1]
      simpa only [List.map_cons, List.zip_cons_cons] using h3
    · cases e
theorem no_fields {K : PySem.W.Frag} {F H : Hp} {c : Nat} : RX M K F H ⟨c, []⟩ (.ref (M.ead c)) none := ⟨rfl, .inl ⟨rfl, rfl⟩⟩
theorem ss_raise (C : Cok X g M S W k) (hot : g.hot = false) {c : Nat} {ei : EI} {x : Str} {p pos rpos : Pos} {es : List ME} {xs : List Expr} (he : g.T.errs[c]? = some ei) (hn : ei.name = x) (hg : gl? g x = true) (hs : SEs X M S W es xs) (hl : xs.length = ei.np) :
    SS X M S W (.raise c es) (.Raise (some (.Call (.Name x p) xs [] pos)) none rpos) := by
  have E := C.errs c ei he
  obtain ⟨g1, g2⟩ := C.gl hg
  have adr := E.adr
  rw [hn] at adr
  rcases E.make with ⟨fl0, np0, xin, kp, rs⟩ | ⟨np1, np2, T, fI, fd, ps, j, hj, iC, tI, FI, bd⟩
  · cases xs with
    | nil =>
      have hes : es = [] := by
        have := hs.len
        exact List.length_eq_zero_iff.mp this
      subst hes
      refine ⟨_, L2N.ps_raise (C.calm hot) C.takes (pmk0 xin adr kp rs g1 g2), ?_⟩
      intro D σ H φ F ρ st r hh hs2 e post
      simp only [exS, evEs, Rs.bf, E.xin, unpv, List.length_nil, np0, if_true, fl0, extP, Option.map_some, Option.some.injEq] at e
      subst e
      exact post F ρ H σ _ _ (G.refl _ _ _) hh hs2 no_fields
    | cons y ys =>
      rw [np0] at hl
      simp at hl
  · cases xs with
    | nil =>
      rw [← hl] at np1
      simp at np1
    | cons y ys =>
      obtain ⟨ta, a1, a2⟩ := hs.pa
      have st := hs.star
      simp only [List.all_cons, Bool.and_eq_true, Bool.not_eq_true'] at st
      have room : Room (j + 1) X.A := (C.hr hot).mono hj
      refine ⟨_, L2N.ps_raise (C.calm hot) C.takes (pmkX T iC tI FI room bd (L2N.passes_call takesN fun _ _ _ _ z => z.elim) g1 adr a1 g2 (star_each st.1) (star_plain st.2)), ?_⟩
      intro D σ H φ F ρ st r hh hs2 e post
      simp only [exS] at e
      refine a2.bindS (U := fun vs H1 => vs.length ≤ 1000 ∧ ∀ a, H1 a = none → spI (M.ead c) (ei.fl.map fun q => (M.fnm q.1, q.2)) ei.np (.ref a :: (vs ++ [])) (upd H1 a (exo a (M.ead c) none)) (fun v H2 => v = .non ∧ ∃ (d : Addr) (fs : List (Str × V)), H2 a = some (exo a (M.ead c) (some d)) ∧ H2 d = some (exd d fs) ∧ H1 d = none ∧ W (.ref (M.ead c)) (some d) σ (upd (del H2 a) d (.xd fs))) (fun _ _ _ => False)) hh hs2 e post fun vs st1 F1 ρ1 H1 us e1 g1 h1 r1 p1 => ?_
      rw [E.xin] at e1
      split at e1
      · rename_i n fl ps heq hun
        cases heq
        split at e1
        · rename_i hlen
          simp only [Option.map_eq_some_iff] at e1
          obtain ⟨fs, e2, e3⟩ := e1
          subst e3
          rw [unpv_eq hun] at r1
          have rp := RLs_pv.mp r1
          obtain ⟨vs2, x1, x2⟩ := ext_ok (M := M) rp (acc := []) (va := []) (by simp only [List.map_nil, RPs]) e2
          refine ⟨by rw [← rp.length, hlen]; omega, fun a na => ⟨a, us, _, by rw [List.append_nil], by rw [← rp.length]; exact hlen, upd_same, x1, fun d H2 nd ne ea ed keep => ⟨rfl, d, _, ea, ed, by rw [upd_ne ne] at nd; exact nd, ?_⟩⟩⟩
          rw [upd_ne ne] at nd
          have eH : upd (del H2 a) d (.xd ((fs.map fun f => M.fnm f.1).zip vs2)) = upd H1 d (.xd ((fs.map fun f => M.fnm f.1).zip vs2)) := by
            funext b
            by_cases hb : b = d
            · rw [hb, upd_same, upd_same]
            · rw [upd_ne hb, upd_ne hb]
              by_cases hb2 : b = a
              · rw [hb2, del_same, na]
              · rw [del_ne hb2, keep b hb hb2, upd_ne hb2]
          rw [eH]
          obtain ⟨g2, h2⟩ := h1.new nd (.xd ((fs.map fun f => M.fnm f.1).zip vs2))
          refine p1 _ _ _ σ _ _ g2 h2 ((hs2.g g1).g g2) ⟨rfl, .inr ⟨d, vs2, rfl, upd_same, RPs.mono (sub_upd (h1.fresh nd)) _ _ x2⟩⟩
        · cases e1
      · cases e1
end
end Z
end

section
/-! ZQb: try. -/
namespace Z
open PySem PySem.Spec PyProof.Rows L2
theorem all_PSs {ι : Type} {Xs : ι → Cx} {ss : List Stmt} {M : Nm} {K : PySem.W.Frag} {W : WX} {f : Slots → Store → Option FR} (h : ∀ i, ∃ t, PSs (Xs i) ss t ∧ RdS M K W t f) : ∃ t, (∀ i, PSs (Xs i) ss t) ∧ RdS M K W t f := by
  refine ⟨fun D σ H => ∀ i, Classical.choose (h i) D σ H, fun i => ⟨fun pins s σ H D I q => (Classical.choose_spec (h i)).1.run pins s σ H D I (q i)⟩, fun D σ H φ F ρ st r hh hs e p i => (Classical.choose_spec (h i)).2 D σ H φ F ρ st r hh hs e p⟩
section
variable {X : Cx} {M : Nm} {S : Sem} {W : WX}
abbrev inM (M : Nm) (i : Nat) (a : Addr) (cls : Value) (d : Option Addr) : Nm := { M with cur := some (i, a, cls, d) }
theorem sl_in {K : PySem.W.Frag} {F : Hp} {ρ : List Addr} {σ : L2.St} {φ : Slots} {i : Nat} {a : Addr} {cls : Value} {d : Option Addr} {e : Ex} (hc : M.cur = none) (h : SL M K F ρ σ φ) (r : RF M K F e cls d) : SL (inM M i a cls d) K F ρ (σ.set i (some (.ref a))) (φ.set i (some (.exn e))) := by
  refine ⟨by simp [h.1], fun j x hx => ?_⟩
  by_cases hj : i = j
  · subst hj
    by_cases hl : i < φ.length
    · rw [List.getElem?_set_self hl] at hx
      cases hx
      exact ⟨_, List.getElem?_set_self (by rw [← h.1]; exact hl), a, cls, d, rfl, rfl, r⟩
    · rw [List.getElem?_eq_none (by simpa using Nat.le_of_not_lt hl)] at hx
      cases hx
  · rw [List.getElem?_set_ne hj] at hx ⊢
    obtain ⟨v, h1, h2⟩ := h.2 j x hx
    refine ⟨v, h1, .of (h2.rl fun z hz => ?_)⟩
    subst hz
    obtain ⟨a', c', d', h3, _⟩ := h2
    rw [hc] at h3; cases h3
theorem sl_out {K : PySem.W.Frag} {F : Hp} {ρ : List Addr} {σ : L2.St} {φ : Slots} {i : Nat} {a : Addr} {cls : Value} {d : Option Addr} (h : SL (inM M i a cls d) K F ρ σ φ) : SL M K F ρ (σ.set i none) (φ.set i none) := by
  refine ⟨by simp [h.1], fun j x hx => ?_⟩
  by_cases hj : i = j
  · subst hj
    by_cases hl : i < φ.length
    · rw [List.getElem?_set_self hl] at hx; cases hx
    · rw [List.getElem?_eq_none (by simpa using Nat.le_of_not_lt hl)] at hx; cases hx
  · rw [List.getElem?_set_ne hj] at hx ⊢
    obtain ⟨v, h1, h2⟩ := h.2 j x hx
    refine ⟨v, h1, .of (h2.rl fun z hz => ?_)⟩
    subst hz
    obtain ⟨a', c', d', h3, _⟩ := h2
    cases h3
    exact hj rfl
theorem rd_tryAs {c i : Nat} {body suite : List MS} {tb : WX → TS} {ts : Addr → Value → Option Addr → TS} (hcur : M.cur = none) (hb : ∀ W', RdS M X.K W' (tb W') (exSs S body)) (hsu : ∀ a cls d, RdS (inM M i a cls d) X.K W0 (ts a cls d) (exSs S suite))
    (hsub : ∀ (e : Ex), S.xin e.cls ≠ none → PySem.W.exmOne X.K (.ref (M.ead e.cls)) (.ref (M.ead c)) = some (S.sub e.cls c)) : RdS M X.K W (fun D σ H => tb (L2.wAs X.K (.ref (M.ead c)) i ts W D) D σ H) (exS S (.tryE body c (some i) suite)) := by
  intro D σ H φ F ρ st r hh hs e post
  simp only [exS] at e
  cases q : exSs S body φ st with
  | none => rw [q] at e; cases e
  | some rb =>
    rw [q] at e
    refine hb _ D σ H φ F ρ st rb hh hs q ?_
    cases rb with
    | nx φ1 st1 => cases e; exact post
    | rt v st1 => cases e; exact post
    | bk φ1 st1 => cases e; exact post
    | ct φ1 st1 => cases e; exact post
    | ex x φ1 st1 =>
      intro F1 ρ1 H1 σ1 cls d g1 h1 s1 x1
      simp only at e
      by_cases hn : (S.xin x.cls).isNone = true
      · rw [if_pos hn] at e; cases e
      rw [if_neg hn] at e
      have hx : S.xin x.cls ≠ none := by
        intro z
        rw [z] at hn
        exact hn rfl
      have hcls : cls = .ref (M.ead x.cls) := x1.1
      refine ⟨S.sub x.cls c, by rw [hcls]; exact hsub x hx, fun hy a na => ?_, fun hno => ?_⟩
      · rw [hy] at e
        simp only [if_true] at e
        cases qs : exSs S suite (φ1.set i (some (.exn x))) st1 with
        | none => rw [qs] at e; cases e
        | some rs =>
          rw [qs] at e
          refine hsu a cls d _ _ H1 _ F1 ρ1 st1 rs h1 (sl_in hcur s1 x1) qs ?_
          have p1 := post.g g1
          cases rs with
          | nx φ2 st2 =>
            cases e
            exact fun F2 ρ2 H2 σ2 g2 h2 s2 => p1 F2 ρ2 H2 _ g2 h2 (sl_out s2)
          | bk φ2 st2 =>
            cases e
            exact fun F2 ρ2 H2 σ2 g2 h2 s2 => p1 F2 ρ2 H2 _ g2 h2 (sl_out s2)
          | ct φ2 st2 =>
            cases e
            exact fun F2 ρ2 H2 σ2 g2 h2 s2 => p1 F2 ρ2 H2 _ g2 h2 (sl_out s2)
          | rt v st2 =>
            cases e
            exact fun F2 ρ2 H2 u g2 h2 r2 => p1 F2 ρ2 H2 u g2 h2 r2
          | ex y φ2 st2 => cases e
      · rw [hno] at e
        simp only [Bool.false_eq_true, if_false, Option.some.injEq] at e
        subst e
        exact post F1 ρ1 H1 σ1 cls d g1 h1 s1 x1
end
end Z
end

section
/-! ZQc: contexts of a try. -/
namespace Z
open PySem PySem.Spec PyProof.Rows L2
section
variable {X : Cx} {g : SC} {M : Nm} {S : Sem} {W : WX} {k : Nat}
theorem Cok.tr (C : Cok X g M S W k) (hot : g.hot = false) {W' : WX} {pn : List (Addr × Obj)} {xe : Value → Shared → Prop} (tk : L2N.Takes (X.tr pn xe) W') (pa : PassesOwn (model X.prog X.w) X.A X.env xe) : Cok (X.tr pn xe) g M S W' k where
  N := C.N
  sc := C.sc
  fn := C.fn
  nd := C.nd
  calm := C.calm
  hr := C.hr
  hrH := fun h => by rw [hot] at h; cases h
  hotc := fun h => by rw [hot] at h; cases h
  un := C.un
  gd := C.gd
  gdx := C.gdx
  tab := C.tab
  dtab := C.dtab
  fr := C.fr
  glb := C.glb
  callsH := C.callsH
  calls := C.calls
  errs := fun c ei h => ⟨(C.errs c ei h).adr, (C.errs c ei h).xf, (C.errs c ei h).ec, (C.errs c ei h).no, (C.errs c ei h).sub, (C.errs c ei h).xin, (C.errs c ei h).make⟩
  cls := fun c ci h => ⟨(C.cls c ci h).adr, (C.cls c ci h).cl, (C.cls c ci h).no, (C.cls c ci h).meth, (C.cls c ci h).make⟩
  nf := C.nf
  xerr := C.xerr
  finj := C.finj
  fname := C.fname
  cur := by
    have h1 := C.cur
    rw [C.cold hot] at h1 ⊢
    exact h1
  cold := C.cold
  stk := C.stk
  frm := C.frm
  takes := tk
  pass := pa
theorem Cok.suite (C : Cok X g M S W k) (hot : g.hot = false) {i : Nat} {a : Addr} {oe : Obj} {cls : Value} {d : Option Addr} {pn : List (Addr × Obj)} (hz : L2N.Zn cls d oe) (hf : ∃ vs, oe.data = .fields vs) : Cok (X.suite a ((a, oe) :: pn)) (g.suite i) (inM M i a cls d) S W0 k where
  N := C.N
  sc := C.sc
  fn := C.fn
  nd := C.nd
  calm := fun h => by cases h
  hr := fun h => by cases h
  hrH := fun _ => L2H.roomH_mark (C.hr hot) _
  hotc := fun _ => by
    obtain ⟨vs, hv⟩ := hf
    exact ⟨(a, oe), ⟨rfl, vs, hv, hz.2.2 vs hv⟩, List.mem_cons_self⟩
  un := C.un
  gd := fun h => by cases h
  gdx := fun _ => C.gd hot
  tab := C.tab
  dtab := C.dtab
  fr := C.fr
  glb := C.glb
  callsH := C.callsH
  calls := fun h => by cases h
  errs := fun c ei h => ⟨(C.errs c ei h).adr, (C.errs c ei h).xf, (C.errs c ei h).ec, (C.errs c ei h).no, (C.errs c ei h).sub, (C.errs c ei h).xin, (C.errs c ei h).make⟩
  cls := fun c ci h => ⟨(C.cls c ci h).adr, (C.cls c ci h).cl, (C.cls c ci h).no, (C.cls c ci h).meth, (C.cls c ci h).make⟩
  nf := C.nf
  xerr := C.xerr
  finj := C.finj
  fname := C.fname
  cur := ⟨X, a, oe, cls, d, pn, rfl, rfl, hz.zc, hf⟩
  cold := fun h => by cases h
  stk := C.stk
  frm := C.frm
  takes := takesN
  pass := PassesOwn.never
/-- try: body, except x as n: suite -/
theorem ss_tryAs (C : Cok X g M S W k) (hot : g.hot = false) (top : g.top = true) {c i : Nat} {ei : EI} {x n : Str} {np hp pos : Pos} {body suite : List MS} {bs : List Stmt} {b₀ : Stmt} {ss : List Stmt} (he : g.T.errs[c]? = some ei) (hn : ei.name = x) (hg : gl? g x = true) (hi : g.N[i]? = some n) (hl : g.sc.names.lookup n = some .local)
    (hb : ∀ (X' : Cx) (W' : WX), Cok X' g M S W' k → SSs X' M S W' body bs) (hsu : ∀ (X' : Cx) (M' : Nm), Cok X' (g.suite i) M' S W0 k → SSs X' M' S W0 suite (b₀ :: ss)) :
    SS X M S W (.tryE body c (some i) suite) (.Try bs [.ExceptHandler (some (.Name x np)) (some n) (b₀ :: ss) hp] [] [] pos) := by
  have E := C.errs c ei he
  obtain ⟨g1, g2⟩ := C.gl hg
  have adr := E.adr
  rw [hn] at adr
  have hcur : M.cur = none := by
    have h1 := C.cur
    rw [C.cold hot] at h1
    exact h1
  have hbody : ∀ W' : WX, ∃ t, (∀ j : { q : List (Addr × Obj) × (Value → Shared → Prop) // L2N.Takes (X.tr q.1 q.2) W' ∧ PassesOwn (model X.prog X.w) X.A X.env q.2 }, PSs (X.tr j.1.1 j.1.2) bs t) ∧ RdS M X.K W' t (exSs S body) := fun W' =>
    all_PSs (Xs := fun j : { q : List (Addr × Obj) × (Value → Shared → Prop) // L2N.Takes (X.tr q.1 q.2) W' ∧ PassesOwn (model X.prog X.w) X.A X.env q.2 } => X.tr j.1.1 j.1.2) (K := X.K) fun j => hb _ W' (C.tr hot j.2.1 j.2.2)
  have hsuite : ∀ (a : Addr) (cls : Value) (d : Option Addr), ∃ t, (∀ j : { q : Obj × List (Addr × Obj) // L2N.Zn cls d q.1 ∧ ∃ vs, q.1.data = .fields vs }, PSs (X.suite a ((a, j.1.1) :: j.1.2)) (b₀ :: ss) t) ∧ RdS (inM M i a cls d) X.K W0 t (exSs S suite) := fun a cls d =>
    all_PSs (Xs := fun j : { q : Obj × List (Addr × Obj) // L2N.Zn cls d q.1 ∧ ∃ vs, q.1.data = .fields vs } => X.suite a ((a, j.1.1) :: j.1.2)) (K := X.K) fun j => hsu _ _ (C.suite hot j.2.1 j.2.2)
  refine ⟨_, L2N.ps_try_as (c := .ref (M.ead c)) (tb := fun W' => Classical.choose (hbody W')) (ts := fun a cls d => Classical.choose (hsuite a cls d)) (C.stk top) (C.frm top) C.nd (by rw [C.N]; exact hi) (by show X.env.scope.names.lookup n = _; rw [C.sc]; exact hl) ⟨g1, g2, .inl adr⟩ C.takes
    (fun W' pn xe tk pa => (Classical.choose_spec (hbody W')).1 ⟨(pn, xe), tk, pa⟩) (fun a oe cls d pn hz hf => (Classical.choose_spec (hsuite a cls d)).1 ⟨(oe, pn), hz, hf⟩), ?_⟩
  refine rd_tryAs hcur (fun W' => (Classical.choose_spec (hbody W')).2) (fun a cls d => (Classical.choose_spec (hsuite a cls d)).2) fun e hx => ?_
  obtain ⟨ei2, h2⟩ := C.xerr e.cls hx
  exact ((C.errs _ _ h2).sub c ei he).1
end
end Z
end

section
/-! ZQd: fields stored. -/
namespace Z
open PySem PySem.Spec PyProof.Rows L2
section
variable {X : Cx} {g : SC} {M : Nm} {S : Sem} {W : WX} {k : Nat}
theorem sw_attr {v o : Expr} {f : Str} {p : Pos} {env : Env} {l : Nat} : swapsWith v (some (.Attribute o f p)) l env = pure false := by
  unfold swapsWith
  cases v <;> rfl
theorem rd_setFl (C : Cok X g M S W k) {F H : Hp} {ρ : List Addr} {st st' : Store} {n f : Nat} {a dx : Addr} {c : Nat} {fs : List (Nat × LV)} {vs : List V} {y : LV} {v : V} (hh : HR' M X.K F ρ H st) (er : ρ[n]? = some a) (es : st[n]? = some (.ins c fs))
    (hr : RLs X.K F ρ (fs.map (·.2)) vs) (hF : F a = none) (ry : RL X.K F ρ y v) (e : setFl (.ref n) f y st = some st') :
    ((fs.map fun q => M.fnm q.1).zip vs).length < 1000 ∧ G F ρ H F ρ (upd H a (.ins (M.cad c) dx (putF (M.fnm f) v ((fs.map fun q => M.fnm q.1).zip vs)))) ∧ HR' M X.K F ρ (upd H a (.ins (M.cad c) dx (putF (M.fnm f) v ((fs.map fun q => M.fnm q.1).zip vs)))) st' := by
  simp only [setFl, es] at e
  split at e
  · rename_i hl
    simp only [Option.some.injEq] at e
    subst e
    obtain ⟨vs', h1, h2⟩ := put_zip (fnm := M.fnm) C.finj (f := f) ry hr
    refine ⟨by rw [List.length_zip, List.length_map]; omega, ?_⟩
    rw [h1]
    exact hh.write er hF ⟨dx, vs', upd_same, h2, hF⟩
  · cases e
theorem ss_fset (C : Cok X g M S W k) {c f : Nat} {a e : ME} {o v : Expr} {n : Str} {p pos : Pos} (h2 : g.T.fnames[f]? = some n) (h3 : (match g.T.cls[c]? with
      | some ci => ci.fields.contains f
      | none => false) = true) (ha : SE X M S W a o) (he : SE X M S W e v) : SS X M S W (.fset c a f e) (.Assign [.Attribute o n p] v pos) := by
  obtain ⟨ta, a1, a2⟩ := ha
  obtain ⟨te, e1, e2⟩ := he
  refine ⟨_, ps_fld a1 e1 sw_attr, ?_⟩
  split at h3
  · rename_i ci hci
    have CC := C.cls c ci hci
    have hn : M.fnm f = n := C.fname f n h2
    have hno : NoAttr X.K (M.cad c) n := by rw [← hn]; exact CC.no f (by simpa using h3)
    intro D σ H φ F ρ st r hh hs e p
    simp only [exS] at e
    refine e2.bindS (U := fun y H1 => ta σ H1 fun x H2 => ∃ a C dx fs, x = .ref a ∧ H2 a = some (.ins C dx fs) ∧ Cls X.K C ∧ NoAttr X.K C n ∧ fs.length < 1000 ∧ D.nx σ (upd H2 a (.ins C dx (putF n y fs)))) hh hs e p fun y st1 F1 ρ1 H1 v e1 g1 h1 r1 p1 => ?_
    refine a2.bindS (U := fun x H2 => ∃ a C dx fs, x = .ref a ∧ H2 a = some (.ins C dx fs) ∧ Cls X.K C ∧ NoAttr X.K C n ∧ fs.length < 1000 ∧ D.nx σ (upd H2 a (.ins C dx (putF n v fs)))) h1 (hs.g g1) e1 p1 fun x st2 F2 ρ2 H2 u e2 g2 h2 r2 p2 => ?_
    split at e2
    · rename_i hi
      obtain ⟨m, b, fs, dx, vs, ex, ev, er, es, hf, hH, hr, hF⟩ := ins_at h2 r2 hi
      subst ex ev
      simp only [Option.map_eq_some_iff] at e2
      obtain ⟨st3, e3, e4⟩ := e2
      subst e4
      obtain ⟨hl, g3, h3⟩ := rd_setFl C (dx := dx) h2 er es hr hF (RL.mono g2.sub g2.pre _ _ r1) e3
      refine ⟨b, _, dx, _, rfl, hH, CC.cl, hno, hl, ?_⟩
      rw [← hn]
      exact p2 F2 ρ2 _ σ g3 h3 (((hs.g g1).g g2).g g3)
    · cases e2
  · cases h3
theorem ss_faug (C : Cok X g M S W k) {c f : Nat} {op : BO} {a e : ME} {o v : Expr} {n : Str} {p pos : Pos} (h2 : g.T.fnames[f]? = some n) (h3 : (match g.T.cls[c]? with
      | some ci => ci.fields.contains f
      | none => false) = true) (ha : SE X M S W a o) (he : SE X M S W e v) : SS X M S W (.faug c a f op e) (.AugAssign (.Attribute o n p) (opB op) v pos) := by
  obtain ⟨ta, a1, a2⟩ := ha
  obtain ⟨te, e1, e2⟩ := he
  refine ⟨_, ps_fldaug (rd := rAugZ op) a1 e1 (fun pins s σ H x y u v Q I rx ry h => op_augZ op pins s σ H x y u v Q I rx ry h), ?_⟩
  split at h3
  · rename_i ci hci
    have CC := C.cls c ci hci
    have hn : M.fnm f = n := C.fname f n h2
    have hno : NoAttr X.K (M.cad c) n := by rw [← hn]; exact CC.no f (by simpa using h3)
    intro D σ H φ F ρ st r hh hs e p
    simp only [exS] at e
    refine a2.bindS (U := fun x H1 => ∃ a C dx fs v, x = .ref a ∧ H1 a = some (.ins C dx fs) ∧ Cls X.K C ∧ NoAttr X.K C n ∧ fs.lookup n = some v ∧
      te σ H1 fun y H2 => rAugZ op v y H2 fun z H3 => ∃ dx' fs', H3 a = some (.ins C dx' fs') ∧ fs'.length < 1000 ∧ D.nx σ (upd H3 a (.ins C dx' (putF n z fs')))) hh hs e p fun x st1 F1 ρ1 H1 u e1 g1 h1 r1 p1 => ?_
    split at e1
    · rename_i hi
      obtain ⟨m, b, fs, dx, vs, ex, ev, er, es, hf, hH, hr, hF⟩ := ins_at h1 r1 hi
      subst ex ev
      simp only [getF, es] at e1
      split at e1
      · rename_i w hw
        · skip
          obtain ⟨u, l1, l2⟩ := look_zip C.finj hr hw
          rw [hn] at l1
          refine ⟨b, _, dx, _, u, rfl, hH, CC.cl, hno, l1, ?_⟩
          refine e2.bindS (U := fun y H2 => rAugZ op u y H2 fun z H3 => ∃ dx' fs', H3 b = some (.ins (M.cad c) dx' fs') ∧ fs'.length < 1000 ∧ D.nx σ (upd H3 b (.ins (M.cad c) dx' (putF n z fs')))) h1 (hs.g g1) e1 p1 fun y st2 F2 ρ2 H2 u2 e2 g2 h2 r2 p2 => ?_
          cases q4 : augOp op w y st2 with
          | none => rw [q4] at e2; cases e2
          | some a5 =>
            rw [q4] at e2
            refine rd_augOp op σ H2 _ F2 ρ2 st2 w y u u2 a5 h2 (RL.mono g2.sub g2.pre _ _ l2) r2 q4 (W := W) ?_
            cases a5 with
            | ex z st5 =>
              cases e2
              exact fun F5 ρ5 H5 cls d g5 h5 x5 => p2 F5 ρ5 H5 σ cls d g5 h5 (hs.g ((g1.trans g2).trans g5)) x5
            | ok z st5 =>
              intro F5 ρ5 H5 u5 g5 h5 r5
              simp only [R.bf] at e2
              split at e2
              · rename_i hi2
                simp only [Option.map_eq_some_iff] at e2
                obtain ⟨st6, e6, e7⟩ := e2
                subst e7
                have r1' := RL.mono (K := X.K) (g2.trans g5).sub (g2.trans g5).pre (.ref m) (.ref b) r1
                obtain ⟨m', b', fs', dx', vs', ex, ev, er', es', hf', hH', hr', hF'⟩ := ins_at h5 r1' hi2
                cases ex
                cases ev
                obtain ⟨hl, g6, h6⟩ := rd_setFl C (dx := dx') h5 er' es' hr' hF' r5 e6
                refine ⟨dx', _, hH', hl, ?_⟩
                rw [← hn]
                exact p2 F5 ρ5 _ σ (g5.trans g6) h6 (hs.g (((g1.trans g2).trans g5).trans g6))
              · cases e2
      · cases e1
    · cases e1
  · cases h3
end
end Z
end

section
/-! ZR: the theorem for statements. -/
namespace Z
open PySem PySem.Spec PyProof.Rows L2
section
variable {X : Cx} {g : SC} {M : Nm} {S : Sem} {W : WX} {k : Nat}
theorem swC_ok {g : SC} {v : Expr} {x : Str} {p : Pos} {env : Env} {l : Nat} (hs : env.scope = g.sc) : swapsWith v (some (.Name x p)) l env = pure (swC g v x p) := by
  have hb : env.blockKind = bkd g := by unfold Env.blockKind bkd; rw [hs]
  have hk : ∀ x, env.kindOf x = g.sc.names.lookup x := fun x => by unfold Env.kindOf; rw [hs]
  unfold swapsWith swC
  cases v <;> simp only [pure_bind, hb, hk] <;> rfl
theorem sole {t v : Expr} {l : Nat} {env : Env} : swapsWithSole [t] v l env = swapsWith v (some t) l env := by
  unfold swapsWithSole; rfl
theorem sw_sub {v o i : Expr} {p : Pos} {env : Env} {l : Nat} : swapsWith v (some (.Subscript o i p)) l env = pure false := by
  unfold swapsWith
  cases v <;> rfl
theorem sw_tup {v : Expr} {ts : List Expr} {k : Nat} {p : Pos} {env : Env} {l : Nat} : swapsWith v (some (.Tuple ts k p)) l env = pure false := by
  unfold swapsWith
  cases v <;> rfl
theorem st_name {v : Expr} {x : Str} {p : Pos} {env : Env} : swappedStores [.Name x p] v env = pure none := by
  unfold swappedStores; rfl
theorem st_sub {v o i : Expr} {p : Pos} {env : Env} : swappedStores [.Subscript o i p] v env = pure none := by
  unfold swappedStores; rfl
theorem asg_sub {o i : Expr} {pos : Pos} {env : Env} (h : isSlice i = false) : ∀ v, assign (.Subscript o i pos) env v = (do
      let ov ← holding [v] (eval o env)
      let iv ← holding [v, ov] (eval i env)
      standAt pos
      holding [v, ov, iv] (setItem ov iv v)
      release [v, ov, iv] []) := by
  intro v
  cases i <;> first | rfl | simp [isSlice] at h
theorem aug_sub {i : Expr} (h : isSlice i = false) : ∀ ov iv new, augStore i ov iv new = (do holding [new, ov, iv] (setItem ov iv new); release [new, ov, iv] []; pure .next) := by
  intro ov iv new
  cases i <;> first | rfl | simp [isSlice] at h
theorem asg_mkTup {gs : List MG} {vs : List LV} {φ : Slots} : asgG (.tp gs) (mkTup vs) φ = asgGs gs vs φ := by
  unfold mkTup
  split
  · rename_i ps h
    rw [unpv_eq h]
    simp only [asgG]
  · simp only [asgG]
theorem rd_par {i j : Nat} {ta : TA} {a b : ME} (h : RdA M X.K W ta (evEs S [a, b])) : RdS M X.K W (tPar i j ta) (exS S (.asg (.tp [.nm i, .nm j]) (.tup [a, b]))) := by
  intro D σ H φ F ρ st r hh hs e p
  simp only [exS, evE] at e
  unfold tPar
  cases q : evEs S [a, b] φ st with
  | none => rw [q] at e; cases e
  | some rs =>
    rw [q] at e
    cases rs with
    | ex x st1 =>
      simp only [Rs.bind, R.bf, Option.some.injEq] at e
      subst e
      exact h σ H _ φ F ρ st _ hh hs q fun F1 ρ1 H1 cls d g1 h1 x1 => p F1 ρ1 H1 σ cls d g1 h1 (hs.g g1) x1
    | ok vs st1 =>
      refine h σ H _ φ F ρ st _ hh hs q fun F1 ρ1 H1 us g1 h1 r1 => ?_
      have l := evEs_len q
      match vs, l, us, r1, e with
      | [x, y], _, us, r1, e =>
        simp only [RLs] at r1
        obtain ⟨v, r', e1, rx, w, r'', e2, ry, e3⟩ := r1
        subst e1 e2 e3
        refine ⟨v, w, rfl, ?_⟩
        simp only [Rs.bind] at e
        rw [if_pos (show ([x, y] : List LV).length ≤ line from (show 2 ≤ line by decide))] at e
        simp only [R.bf] at e
        rw [asg_mkTup] at e
        simp only [asgGs, asgG, Option.map_some, Option.some.injEq] at e
        subst e
        exact p F1 ρ1 H1 _ g1 h1 (((hs.g g1).set i rx).set j ry)
theorem rd_par3 {i j l : Nat} {ta : TA} {a b c : ME} (h : RdA M X.K W ta (evEs S [a, b, c])) : RdS M X.K W (tPar3 i j l ta) (exS S (.asg (.tp [.nm i, .nm j, .nm l]) (.tup [a, b, c]))) := by
  intro D σ H φ F ρ st r hh hs e p
  simp only [exS, evE] at e
  unfold tPar3
  cases q : evEs S [a, b, c] φ st with
  | none => rw [q] at e; cases e
  | some rs =>
    rw [q] at e
    cases rs with
    | ex x st1 =>
      simp only [Rs.bind, R.bf, Option.some.injEq] at e
      subst e
      exact h σ H _ φ F ρ st _ hh hs q fun F1 ρ1 H1 cls d g1 h1 x1 => p F1 ρ1 H1 σ cls d g1 h1 (hs.g g1) x1
    | ok vs st1 =>
      refine h σ H _ φ F ρ st _ hh hs q fun F1 ρ1 H1 us g1 h1 r1 => ?_
      have l := evEs_len q
      match vs, l, us, r1, e with
      | [x, y, z], _, us, r1, e =>
        simp only [RLs] at r1
        obtain ⟨v, r', e1, rx, w, r'', e2, ry, u, r3, e3, rz, e4⟩ := r1
        subst e1 e2 e3 e4
        refine ⟨v, w, u, rfl, ?_⟩
        simp only [Rs.bind] at e
        rw [if_pos (show ([x, y, z] : List LV).length ≤ line from (show 3 ≤ line by decide))] at e
        simp only [R.bf] at e
        rw [asg_mkTup] at e
        simp only [asgGs, asgG, Option.map_some, Option.some.injEq] at e
        subst e
        exact p F1 ρ1 H1 _ g1 h1 ((((hs.g g1).set i rx).set j ry).set _ rz)
/-- name = [..] within -/
theorem snd_comp (C : Cok X g M S W k) {live : Bool} {elt : ME} {tg : MG} {ik : IK} {src : List ME} {ifs : List MT} {own : List Nat} {elx : Expr} {gs : List Comprehension} {scope : Scope} {pos : Pos}
    (h : chkE g (.lc live elt tg ik src ifs own) (.ListComp elx gs scope pos) = true) {i : Nat} {y : Str} {py spos : Pos} (hi : g.N[i]? = some y) (hy : g.sc.names.lookup y = some .local)
    (hsw : swC g (.ListComp elx gs scope pos) y py = true) : SS X M S W (.asg (.nm i) (.lc live elt tg ik src ifs own)) (.Assign [.Name y py] (.ListComp elx gs scope pos) spos) := by
  unfold chkE at h
  simp only at h
  split at h
  · rename_i t it is ow hc ho
    split at h
    · rename_i xs hsrc
      simp only [Bool.and_eq_true, Bool.not_eq_true'] at h
      obtain ⟨⟨⟨⟨⟨⟨h1, hown⟩, h2⟩, h3⟩, h4⟩, h5⟩, hhot⟩ := h
      have B := blkOk_by h1
      have hgs : gs = [⟨t, it, is, 0⟩] := by
        unfold comps at hc
        split at hc
        · split at hc
          · rename_i ha
            simp only [Option.some.injEq, Prod.mk.injEq] at hc
            obtain ⟨e1, e2, e3⟩ := hc
            subst e1 e2 e3 ha; rfl
          · cases hc
        · cases hc
      subst hgs
      have how : ∀ (own : List Nat) (ow : List (Str × Nat)), ownOf g.N own = some ow → ow.map (·.2) = own := by
        intro own
        induction own with
        | nil => intro ow e; simp only [ownOf, Option.some.injEq] at e; subst e; rfl
        | cons i r ih =>
          intro ow e
          unfold ownOf at e
          split at e
          · simp only [Option.map_eq_some_iff] at e
            obtain ⟨ow', e1, e2⟩ := e
            subst e2
            simp [ih ow' e1]
          · cases e
      have hown2 := how own ow ho
      obtain ⟨wi, i1, i2, i3⟩ := iter_ok C hsrc (snds src g X W _ C h3) (tg := t)
      have B' : BlkOk X.N X.env.scope scope ow := by rw [C.N, C.sc]; exact B
      have sub : ∀ i ∈ slotsG tg, i ∈ own := fun i hi => by
        have := List.all_eq_true.mp hown i hi
        simpa using this
      obtain ⟨tg', hg1, hg2⟩ := all_PG (Xs := fun b : Blk => b.cx X scope) (K := X.K) (M := M) fun b => tgt (C.blk hhot scope b.s b.H b.A b.cl b.fp) tg t h2
      obtain ⟨te, he1, he2⟩ := all_PE (Xs := fun b : Blk => b.cx X scope) (K := X.K) (W := W0) (M := M) fun b => snd elt (g.blk scope) (b.cx X scope) W0 elx (C.blk hhot scope b.s b.H b.A b.cl b.fp) h5
      have tests : ∃ tt, (∀ b : Blk, PTs (b.cx X scope) is tt) ∧ RdTurn M X.K tt te fun φ st => evIf S ifs φ st fun st => R.bs (evE S elt φ st) fun y st => some (.ok [y] st) := by
        match ifs, h4 with
        | [], h4 =>
          simp only [chkIfs, List.isEmpty_iff] at h4
          subst h4
          exact ⟨tYes, fun b => pts_nil, turn_nil he2⟩
        | c :: cs, h4 =>
          match cs, is, h4 with
          | [], [e'], h4 =>
            simp only [chkIfs] at h4
            obtain ⟨tt, t1, t2⟩ := all_PT (Xs := fun b : Blk => b.cx X scope) (K := X.K) (W := W0) (M := M) fun b => sndT c (g.blk scope) (b.cx X scope) W0 e' (C.blk hhot scope b.s b.H b.A b.cl b.fp) h4
            exact ⟨tt, fun b => pts_one (t1 b), turn_one t2 he2⟩
          | [], [], h4 => simp [chkIfs] at h4
          | [], _ :: _ :: _, h4 => simp [chkIfs] at h4
          | _ :: _, _, h4 => simp [chkIfs] at h4
      obtain ⟨tt, t1, t2⟩ := tests
      refine ⟨_, ps_setLc (C.calm hhot) C.nd (by rw [C.N]; exact hi) (by rw [C.sc]; exact hy) (by rw [swC_ok C.sc, hsw]) i1 B' (fun s H A cl fp => hg1 ⟨s, H, A, cl, fp⟩) (fun s H A cl fp => t1 ⟨s, H, A, cl, fp⟩) (fun s H A cl fp => he1 ⟨s, H, A, cl, fp⟩) (fun x => i3 X.env x), ?_⟩
      rw [hown2]
      refine fun D σ H φ F ρ st r hh hs e p => rd_asg (m := .nm i) (rd_lc i2 hg2 sub t2) ?_ D σ H φ F ρ st r hh hs (by simpa only [exS] using e) p
      intro x v φ φ' σ F ρ H st Q hh hs r e q
      simp only [asgG, Option.some.injEq] at e
      subst e
      exact q _ (hs.set i r) fun vs hv => wipe_set (hv i (by simp [slotsG]))
    · cases h
  · cases h
/-- an assignment by its plain way -/
theorem snd_asg (C : Cok X g M S W k) {m : MG} {e : ME} {t v : Expr} {pos : Pos} (h1 : chkG g m t = true) (h2 : chkE g e v = true) (hs : swapsWithSole [t] v pos.line X.env = pure false) (hw : swappedStores [t] v X.env = pure none) (h3 : (assignEach [t] X.env).map (·.2) = [assign t X.env]) :
    SS X M S W (.asg m e) (.Assign [t] v pos) := by
  obtain ⟨tg, g1, g2⟩ := tgt C m t h1
  obtain ⟨te, e1, e2⟩ := snd e g X W v C h2
  exact ⟨_, ps_asg e1 g1 hs hw h3, fun D σ H φ F ρ st r hh hs e p => rd_asg e2 g2 D σ H φ F ρ st r hh hs (by simpa only [exS] using e) p⟩
theorem loc1_ok (C : Cok X g M S W k) {x : Str} (h : loc1 g x = true) : X.env.scope.names.lookup x = some .local := by
  rw [C.sc]
  exact of_decide_eq_true h
theorem nm_at {i : Nat} {x : Str} {p : Pos} (h : chkG g (.nm i) (.Name x p) = true) : g.N[i]? = some x := by
  simp only [chkG, Bool.and_eq_true, decide_eq_true_eq] at h
  exact h.1
theorem snd_way (C : Cok X g M S W k) {m : MG} {e : ME} {t v : Expr} {pos : Pos} (h1 : chkG g m t = true) (h2 : chkE g e v = true) (h : wayOk g m e t v = true) : SS X M S W (.asg m e) (.Assign [t] v pos) := by
  cases t with
  | Name x p =>
    simp only [wayOk, wayOf] at h
    by_cases hsw : swC g v x p = true
    · rw [if_pos hsw] at h
      simp only at h
      unfold isLc at h
      split at h
      · rename_i live elt tg ik src ifs own elx gs scope lpos
        cases m with
        | tp _ => simp [chkG] at h1
        | nm i =>
          refine snd_comp C h2 (nm_at h1) ?_ hsw
          simp only [swC, Bool.and_eq_true, beq_iff_eq] at hsw
          exact hsw.1.1.2
      · cases h
    · exact snd_asg C h1 h2 (by rw [sole, swC_ok C.sc]; simp [hsw]) st_name rfl
  | Tuple ts kk p =>
    have a1 : (assignEach [.Tuple ts kk p] X.env).map (·.2) = [assign (.Tuple ts kk p) X.env] := rfl
    cases v with
    | Tuple vs k' p' =>
      simp only [wayOk, wayOf] at h
      cases hsw : swp g ts vs with
      | none => simp [hsw] at h
      | some r =>
        have hw := swp_ok (p := p) (p' := p') (k := kk) (k' := k') C.sc hsw
        cases r with
        | none => exact snd_asg C h1 h2 (sole.trans sw_tup) hw a1
        | some ns =>
          simp only [hsw, Bool.and_eq_true, Bool.not_eq_true'] at h
          obtain ⟨hhot, h⟩ := h
          unfold parOk at h
          split at h
          · rename_i i j ma mb x px y py kt pt a b k2 pt2 heq1 heq2
            simp only [Expr.Tuple.injEq] at heq1 heq2
            obtain ⟨e1, e2, e3⟩ := heq1
            obtain ⟨e4, e5, e6⟩ := heq2
            subst e1 e2 e3 e4 e5 e6
            simp only [Bool.and_eq_true, decide_eq_true_eq] at h
            obtain ⟨⟨⟨hij, hx⟩, hy⟩, hn⟩ := h
            subst hn
            simp only [chkG, chkGs, Bool.and_eq_true, decide_eq_true_eq] at h1
            simp only [chkE] at h2
            obtain ⟨ta, p1, p2⟩ := (snds _ g X W _ C h2).pa
            exact ⟨_, ps_par (C.calm hhot) C.nd (by rw [C.N]; exact h1.2.1.1.1) (by rw [C.N]; exact h1.2.2.1.1.1) hij (loc1_ok C hx) (loc1_ok C hy) p1 hw (sole.trans sw_tup), rd_par p2⟩
          · rename_i i j l ma mb mc x px y py z pz kt pt a b c k2 pt2 heq1 heq2
            simp only [Expr.Tuple.injEq] at heq1 heq2
            obtain ⟨e1, e2, e3⟩ := heq1
            obtain ⟨e4, e5, e6⟩ := heq2
            subst e1 e2 e3 e4 e5 e6
            simp only [Bool.and_eq_true, decide_eq_true_eq] at h
            obtain ⟨⟨⟨⟨⟨⟨hij, hil⟩, hjl⟩, hx⟩, hy⟩, hz⟩, hn⟩ := h
            subst hn
            simp only [chkG, chkGs, Bool.and_eq_true, decide_eq_true_eq] at h1
            simp only [chkE] at h2
            obtain ⟨ta, p1, p2⟩ := (snds _ g X W _ C h2).pa
            exact ⟨_, ps_par3 (C.calm hhot) C.nd (by rw [C.N]; exact h1.2.1.1.1) (by rw [C.N]; exact h1.2.2.1.1.1) (by rw [C.N]; exact h1.2.2.2.1.1.1) hij hil hjl (loc1_ok C hx) (loc1_ok C hy) (loc1_ok C hz) p1 hw (sole.trans sw_tup), rd_par3 p2⟩
          · cases h
    | _ => exact snd_asg C h1 h2 (sole.trans sw_tup) (by unfold swappedStores; rfl) a1
  | _ => cases m <;> simp [chkG] at h1
theorem get_Z (hu : room2 X) : PGet X (rIxZ X.K) := by
  intro pins s σ H x y v u Q I rx ry h
  rcases h with h | h | h | h
  · obtain ⟨p, xs, i, z, rfl, rfl, hq, he, q⟩ := h
    cases rx
    obtain ⟨t, rfl⟩ := ry
    obtain ⟨its, r, pl, hz⟩ := I.list hq
    obtain ⟨j, h1, h2, h3, h4, h5⟩ := atI_get he
    obtain ⟨w, ew, rw'⟩ := r.get h2
    have hl := r.length
    have hn := line63
    have fin : EP X pins σ Q w s := ⟨z, H, I, rw', q⟩
    by_cases h0 : 0 ≤ i
    · have hj : i.toNat = j := by
        rw [seqIndex_of h0 h5] at h1
        exact Option.some.inj h1
      exact wpAny_getItem_list pl.isList h0 (by omega) (by rw [hj]; simpa using ew) fin
    · have hj : (i + (its.toArray.size : Int)).toNat = j := by
        rw [seqIndex_neg (by omega) h4] at h1
        rw [List.size_toArray, ← hl]
        exact Option.some.inj h1
      exact wpAny_getItem_list_neg pl.isList (by omega) (by rw [List.size_toArray] <;> omega) (by omega) (by rw [hj]; simpa using ew) fin
  · obtain ⟨p, xs, i, z, rfl, rfl, hq, he, q⟩ := h
    cases rx
    obtain ⟨t, rfl⟩ := ry
    obtain ⟨its, r, pl, hz⟩ := I.tuple hq
    obtain ⟨j, h1, h2, h3, h4, h5⟩ := atI_get he
    obtain ⟨w, ew, rw'⟩ := r.get h2
    have hl := r.length
    have hn := line63
    exact getItem_tuple (j := j) pl (by omega) (by omega) (by rw [List.size_toArray, ← hl]; exact h1) (by simpa using ew) ⟨z, H, I, rw', q⟩
  · obtain ⟨z, i, c, rfl, rfl, hz, he, q⟩ := h
    obtain ⟨t, rfl⟩ := rx
    obtain ⟨t', rfl⟩ := ry
    obtain ⟨j, h1, h2, h3, h4, h5⟩ := atI_get he
    have hl : z.cps.toList.length = z.length := by simp [Str.length]
    rw [hl] at h1 h4 h5
    have hn := line63
    exact getItem_str (c := c) (by
      have e1 : decide (i < -(2 ^ 63 : Int)) = false := decide_eq_false (by omega)
      have e2 : decide (i ≥ 2 ^ 63) = false := decide_eq_false (by omega)
      rw [e1, e2, Bool.or_false]) (by rw [h1]; simpa using h2) ⟨.str ⟨#[c]⟩, H, I.tok _, ⟨_, rfl⟩, q⟩
  · obtain ⟨a, z, e, g, q⟩ := h
    subst e
    obtain rfl : v = Value.ref a := rx
    exact d_getItem (by have h1 : X.A.units + 600 < cLine := hu; omega) I g ry fun w' s' I' r' => ⟨z, H, I', r', q⟩
theorem chk_pass {s : Stmt} (h : chkS g .pass s = true) : PS X s tNext := by
  unfold chkS at h
  split at h
  · exact ps_pass
  · exact ps_doc
  · cases h
theorem noSwapE {x : Expr} {l : Nat} {env : Env} (h : isComp x = false) : swapsWith x none l env = pure false := noSwap h
mutual
theorem sndS : ∀ (m : MS) (M : Nm) (g : SC) (X : Cx) (W : WX) (s : Stmt), Cok X g M S W k → chkS g m s = true → SS X M S W m s
  | .pass, M, g, X, W, s, C, h => ⟨tNext, chk_pass h, fun D σ H φ F ρ st r hh hs e p => by
    simp only [exS, Option.some.injEq] at e
    subst e
    exact p F ρ H σ (G.refl _ _ _) hh hs⟩
  | .ex e, M, g, X, W, s, C, h => by
    unfold chkS at h
    split at h
    · simp only [Bool.and_eq_true, Bool.not_eq_true'] at h
      obtain ⟨te, e1, e2⟩ := snd e g X W _ C h.2
      exact ⟨_, ps_expr e1 (noSwapE h.1), fun D σ H φ F ρ st r hh hs e p => rd_drop e2 D σ H φ F ρ st r hh hs (by simpa only [exS] using e) p⟩
    · cases h
  | .asg m e, M, g, X, W, s, C, h => by
    unfold chkS at h
    split at h
    · simp only [Bool.and_eq_true] at h
      exact snd_way C h.1.1 h.1.2 h.2
    · cases h
  | .asgI a i e, M, g, X, W, s, C, h => by
    unfold chkS at h
    split at h
    · simp only [Bool.and_eq_true, Bool.not_eq_true'] at h
      obtain ⟨⟨⟨h1, h2⟩, h3⟩, h4⟩ := h
      obtain ⟨ta, a1, a2⟩ := snd a g X W _ C h2
      obtain ⟨ti, i1, i2⟩ := snd i g X W _ C h3
      obtain ⟨te, e1, e2⟩ := snd e g X W _ C h4
      refine ⟨_, ps_asg e1 (pg_sub a1 i1 (set_Z C.un) (asg_sub h1)) (sole.trans sw_sub) st_sub rfl, ?_⟩
      intro D σ H φ F ρ st r hh hs e p
      simp only [exS] at e
      refine e2.bindS (U := fun x H1 => gSub ta ti rSetZ x σ H1 D.nx) hh hs e p fun v st1 F1 ρ1 H1 u e1 g1 h1 r1 p1 => ?_
      refine a2.bindS (U := fun o H2 => ti σ H2 fun i H3 => rSetZ o i u H3 fun H4 => D.nx σ H4) h1 (hs.g g1) e1 p1 fun x st2 F2 ρ2 H2 o e2 g2 h2 r2 p2 => ?_
      refine i2.bindS (U := fun i H3 => rSetZ o i u H3 fun H4 => D.nx σ H4) h2 (hs.g (g1.trans g2)) e2 p2 fun y st3 F3 ρ3 H3 w e3 g3 h3 r3 p3 => ?_
      simp only [Option.map_eq_some_iff] at e3
      obtain ⟨st4, e4, e5⟩ := e3
      subst e5
      exact rd_setI h3 (RL.mono g3.sub g3.pre _ _ r2) r3 (RL.mono (g2.trans g3).sub (g2.trans g3).pre _ _ r1) e4 fun H4 g4 h4 => p3 F3 ρ3 H4 σ g4 h4 ((hs.g (g1.trans g2)).g (g3.trans g4))
    · cases h
  | .aug i op e, M, g, X, W, s, C, h => by
    unfold chkS at h
    split at h
    · simp only [Bool.and_eq_true, decide_eq_true_eq] at h
      obtain ⟨⟨⟨h1, h2⟩, h3⟩, h4⟩ := h
      subst h1
      obtain ⟨hl, hf⟩ := C.loc h3
      obtain ⟨te, e1, e2⟩ := snd e g X W _ C h4
      exact ⟨_, ps_aug C.nd (by rw [C.N]; exact h2) hl e1 (op_augZ op) hf, fun D σ H φ F ρ st r hh hs e p => rd_augS e2 D σ H φ F ρ st r hh hs (by simp only [exS] at e; exact e) p⟩
    · cases h
  | .augI a i op e, M, g, X, W, s, C, h => by
    unfold chkS at h
    split at h
    · simp only [Bool.and_eq_true, decide_eq_true_eq, Bool.not_eq_true'] at h
      obtain ⟨⟨⟨⟨h0, h1⟩, h2⟩, h3⟩, h4⟩ := h
      subst h0
      obtain ⟨ta, a1, a2⟩ := snd a g X W _ C h2
      obtain ⟨ti, i1, i2⟩ := snd i g X W _ C h3
      obtain ⟨te, e1, e2⟩ := snd e g X W _ C h4
      refine ⟨_, ps_augS a1 i1 (get_Z C.un) e1 (op_augZ op) (set_Z C.un) (aug_sub h1), ?_⟩
      intro D σ H φ F ρ st r hh hs e p
      simp only [exS] at e
      refine a2.bindS (U := fun o H1 => ti σ H1 fun i H2 => rIxZ X.K o i H2 fun x H3 => te σ H3 fun y H4 => rAugZ op x y H4 fun z H5 => rSetZ o i z H5 fun H6 => D.nx σ H6) hh hs e p fun x st1 F1 ρ1 H1 o e1 g1 h1 r1 p1 => ?_
      refine i2.bindS (U := fun i H2 => rIxZ X.K o i H2 fun x H3 => te σ H3 fun y H4 => rAugZ op x y H4 fun z H5 => rSetZ o i z H5 fun H6 => D.nx σ H6) h1 (hs.g g1) e1 p1 fun y st2 F2 ρ2 H2 w e2' g2 h2 r2 p2 => ?_
      cases q : getI x y st2 with
      | none => rw [q] at e2'; cases e2'
      | some a3 =>
        rw [q] at e2'
        refine rd_getI σ H2 _ F2 ρ2 st2 x y o w a3 h2 (RL.mono g2.sub g2.pre _ _ r1) r2 q (W := W) ?_
        cases a3 with
        | ex z st3 =>
          cases e2'
          exact fun F3 ρ3 H3 cls d g3 h3 x3 => p2 F3 ρ3 H3 σ cls d g3 h3 (hs.g ((g1.trans g2).trans g3)) x3
        | ok vv st3 =>
          intro F3 ρ3 H3 u g3 h3 r3
          refine e2.bindS (U := fun y H4 => rAugZ op u y H4 fun z H5 => rSetZ o w z H5 fun H6 => D.nx σ H6) h3 (hs.g ((g1.trans g2).trans g3)) e2' (p2.g g3) fun ww st4 F4 ρ4 H4 u4 e4 g4 h4 r4 p4 => ?_
          cases q4 : augOp op vv ww st4 with
          | none => rw [q4] at e4; cases e4
          | some a5 =>
            rw [q4] at e4
            refine rd_augOp op σ H4 _ F4 ρ4 st4 vv ww u u4 a5 h4 (RL.mono g4.sub g4.pre _ _ r3) r4 q4 (W := W) ?_
            cases a5 with
            | ex z st5 =>
              cases e4
              exact fun F5 ρ5 H5 cls d g5 h5 x5 => p4 F5 ρ5 H5 σ cls d g5 h5 (hs.g ((((g1.trans g2).trans g3).trans g4).trans g5)) x5
            | ok z st5 =>
              intro F5 ρ5 H5 u5 g5 h5 r5
              simp only [R.bf, Option.map_eq_some_iff] at e4
              obtain ⟨st6, e6, e7⟩ := e4
              subst e7
              have ga := (g2.trans g3).trans (g4.trans g5)
              have gb := g3.trans (g4.trans g5)
              exact rd_setI h5 (RL.mono ga.sub ga.pre _ _ r1) (RL.mono gb.sub gb.pre _ _ r2) r5 e6 fun H6 g6 h6 => p4 F5 ρ5 H6 σ (g5.trans g6) h6 (hs.g ((g1.trans ga).trans g6))
    · cases h
  | .iff c a b, M, g, X, W, s, C, h => by
    unfold chkS at h
    split at h
    · simp only [Bool.and_eq_true] at h
      obtain ⟨tc, c1, c2⟩ := sndT c g X W _ C h.1.1
      obtain ⟨ta, a1, a2⟩ := sndSs a M g X W _ C h.1.2
      obtain ⟨tb, b1, b2⟩ := sndSs b M g X W _ C h.2
      exact ⟨_, ps_if c1 a1 b1, fun D σ H φ F ρ st r hh hs e p => rd_if c2 a2 b2 D σ H φ F ρ st r hh hs (by simpa only [exS] using e) p⟩
    · cases h
  | .whl c a, M, g, X, W, s, C, h => by
    unfold chkS at h
    split at h
    · simp only [Bool.and_eq_true] at h
      obtain ⟨tc, c1, c2⟩ := sndT c g X W _ C h.1
      obtain ⟨ta, a1, a2⟩ := sndSs a M g X W _ C h.2
      exact ⟨_, ps_while C.pass c1 a1, fun D σ H φ F ρ st r hh hs e p => rd_while c2 a2 D σ H φ F ρ st r hh hs (by simpa only [exS] using e) p⟩
    · cases h
  | .for_ tg ik src a, M, g, X, W, s, C, h => by
    unfold chkS at h
    split at h
    · rename_i t it a' pos
      split at h
      · rename_i xs hsrc
        simp only [Bool.and_eq_true, Bool.not_eq_true'] at h
        obtain ⟨tg', g1, g2⟩ := tgt C tg t h.1.1.1
        obtain ⟨wi, i1, i2, i3⟩ := iter_ok C hsrc (snds src g X W _ C h.1.1.2) (tg := t)
        obtain ⟨ta, a1, a2⟩ := sndSs a M g X W _ C h.1.2
        exact ⟨_, ps_for C.pass (C.calm h.2) i1 g1 a1 (fun x => i3 X.env x), rd_for i2 g2 a2⟩
      · cases h
    · cases h
  | .forW tg src a, M, g, X, W, s, C, h => by
    unfold chkS at h
    split at h
    · rename_i t it a' pos
      simp only [Bool.and_eq_true, Bool.not_eq_true'] at h
      obtain ⟨⟨⟨⟨h1, h2⟩, h3⟩, h4⟩, h5⟩ := h
      obtain ⟨tg', g1, g2⟩ := tgt C tg t h1
      obtain ⟨tl, i1, i2⟩ := snd src g X W _ C h2
      obtain ⟨ta, a1, a2⟩ := sndSs a M g X W _ C h3
      exact ⟨_, ps_for C.pass (C.calm h5) (pi_list i1) g1 a1 (fun x => noFold h4 X.env x), rd_forW i2 g2 a2⟩
    · cases h
  | .ret e, M, g, X, W, s, C, h => by
    unfold chkS at h
    split at h
    · obtain ⟨te, e1, e2⟩ := snd e g X W _ C h
      exact ⟨_, ps_ret e1, fun D σ H φ F ρ st r hh hs e p => rd_ret e2 D σ H φ F ρ st r hh hs (by simpa only [exS] using e) p⟩
    · cases h
  | .retN, M, g, X, W, s, C, h => by
    unfold chkS at h
    split at h
    · refine ⟨_, ps_retN, fun D σ H φ F ρ st r hh hs e p => ?_⟩
      simp only [exS, Option.some.injEq] at e
      subst e
      exact p F ρ H .non (G.refl _ _ _) hh (by simp only [RL, RP])
    · cases h
  | .fset c a f e, M, g, X, W, s, C, h => by
    unfold chkS at h
    split at h
    · simp only [Bool.and_eq_true, decide_eq_true_eq] at h
      obtain ⟨⟨⟨h1, h2⟩, h3⟩, h4⟩ := h
      exact ss_fset C h1 h2 (snd a g X W _ C h3) (snd e g X W _ C h4)
    · cases h
  | .faug c a f op e, M, g, X, W, s, C, h => by
    unfold chkS at h
    split at h
    · simp only [Bool.and_eq_true, decide_eq_true_eq] at h
      obtain ⟨⟨⟨⟨h0, h1⟩, h2⟩, h3⟩, h4⟩ := h
      subst h0
      exact ss_faug C h1 h2 (snd a g X W _ C h3) (snd e g X W _ C h4)
    · cases h
  | .raise c es, M, g, X, W, s, C, h => by
    unfold chkS at h
    split at h
    · split at h
      · rename_i ei hei
        simp only [Bool.and_eq_true, decide_eq_true_eq, Bool.not_eq_true'] at h
        obtain ⟨⟨⟨⟨h1, h2⟩, h3⟩, h4⟩, h5⟩ := h
        exact ss_raise C h5 hei h1 h2 (snds es g X W _ C h3) h4
      · cases h
    · cases h
  | .tryE body c slot suite, M, g, X, W, s, C, h => by
    unfold chkS at h
    split at h
    · split at h
      · rename_i i ei hei
        simp only [Bool.and_eq_true, decide_eq_true_eq, Bool.not_eq_true'] at h
        obtain ⟨⟨⟨⟨⟨⟨⟨h1, h2⟩, h3⟩, h4⟩, h5⟩, h6⟩, h7⟩, h8⟩ := h
        exact ss_tryAs C h5 h6 hei h1 h2 h3 h4 (fun X' W' C' => sndSs body M g X' W' _ C' h7) (fun X' M' C' => sndSs suite M' (g.suite i) X' W0 _ C' h8)
      · cases h
    · cases h
  | .brk, M, g, X, W, s, C, h => by
    unfold chkS at h
    split at h
    · refine ⟨_, ps_break, fun D σ H φ F ρ st r hh hs e p => ?_⟩
      simp only [exS, Option.some.injEq] at e
      subst e
      exact p F ρ H σ (G.refl _ _ _) hh hs
    · cases h
  | .cnt, M, g, X, W, s, C, h => by
    unfold chkS at h
    split at h
    · refine ⟨_, ps_continue, fun D σ H φ F ρ st r hh hs e p => ?_⟩
      simp only [exS, Option.some.injEq] at e
      subst e
      exact p F ρ H σ (G.refl _ _ _) hh hs
    · cases h
theorem sndSs : ∀ (ms : List MS) (M : Nm) (g : SC) (X : Cx) (W : WX) (ss : List Stmt), Cok X g M S W k → chkSs g ms ss = true → SSs X M S W ms ss
  | [], M, g, X, W, ss, C, h => by
    simp only [chkSs, List.isEmpty_iff] at h
    subst h
    refine ⟨_, pss_nil, fun D σ H φ F ρ st r hh hs e p => ?_⟩
    simp only [exSs, Option.some.injEq] at e
    subst e
    exact p F ρ H σ (G.refl _ _ _) hh hs
  | m :: ms, M, g, X, W, [], C, h => by simp [chkSs] at h
  | m :: ms, M, g, X, W, s :: ss, C, h => by
    simp only [chkSs, Bool.and_eq_true] at h
    obtain ⟨t, h1, h2⟩ := sndS m M g X W s C h.1
    obtain ⟨u, h3, h4⟩ := sndSs ms M g X W ss C h.2
    exact ⟨_, pss_cons h1 h3, fun D σ H φ F ρ st r hh hs e p => rd_seq h2 h4 D σ H φ F ρ st r hh hs (by simp only [exSs] at e; exact e) p⟩
end
end
end Z
end

section
/-! ZSa: the head's facts with one more question. -/
namespace Z
open PySem PySem.Spec PyProof.Rows L2
/-- He.obsD with a question of one's own -/
def obsZ (fa : List He.Fa) (fn : List He.DefD) (ck : PySem.W.Frag → Bool) (K : PySem.W.Frag) : He.AlD := ((He.obsD fa fn K).1 && ck K, (He.obsD fa fn K).2)
def SaysZ (fa : List He.Fa) (fn : List He.DefD) (ck : PySem.W.Frag → Bool) (K : PySem.W.Frag) : Prop := obsZ fa fn ck K = He.valD fn
abbrev AlZ : Type := He.AlD × List (Option (List (Option (Str × Int))))
/-- with the keys of the module's dicts -/
def obsZT (fa : List He.Fa) (fn : List He.DefD) (ck : PySem.W.Frag → Bool) (ts : List (Str × List Str)) (K : PySem.W.Frag) : AlZ := (obsZ fa fn ck K, ts.map fun t => He.dicW K (He.ga K t.1))
def valZT (fn : List He.DefD) (ts : List (Str × List Str)) (w : World) : AlZ := (He.valD fn, ts.map fun t => some (He.keysIn w.params t.2))
def SaysZT (fa : List He.Fa) (fn : List He.DefD) (ck : PySem.W.Frag → Bool) (ts : List (Str × List Str)) (w : World) (K : PySem.W.Frag) : Prop := obsZT fa fn ck ts K = valZT fn ts w
def obsZG (n : Nat) (fa : List He.Fa) (fn : List He.DefD) (ck : PySem.W.Frag → Bool) (ts : List (Str × List Str)) (get : Addr → Option Obj) : AlZ := obsZT fa fn ck ts (He.frG get (He.asD get n))
def hookZ (n : Nat) (fa : List He.Fa) (fn : List He.DefD) (ck : PySem.W.Frag → Bool) (ts : List (Str × List Str)) : PySem.W.Hook where
  α := AlZ
  obs := fun st => obsZG n fa fn ck ts st.heap.get?
  val := fun w => valZT fn ts w
  says := fun w hp => ∃ K : PySem.W.Frag, K.In hp ∧ SaysZT fa fn ck ts w K
  of := fun _ _ e => ⟨_, He.frG_in, e⟩
  keeps := fun _ _ _ ⟨K, hK, c⟩ kp => ⟨K, PySem.W.Frag.In.keeps hK kp, c⟩
theorem obsZG_eq {n : Nat} {fa : List He.Fa} {fn : List He.DefD} {ck : PySem.W.Frag → Bool} {ts : List (Str × List Str)} {get : Addr → Option Obj} {st : Shared} (h : ∀ a, get a = st.heap.get? a) : obsZG n fa fn ck ts get = (hookZ n fa fn ck ts).obs st := by
  obtain rfl : get = st.heap.get? := funext h
  rfl
theorem SaysZT.z {fa : List He.Fa} {fn : List He.DefD} {ck : PySem.W.Frag → Bool} {ts : List (Str × List Str)} {w : World} {K : PySem.W.Frag} (c : SaysZT fa fn ck ts w K) : SaysZ fa fn ck K := congrArg (fun z : AlZ => z.1) c
theorem SaysZT.dt {fa : List He.Fa} {fn : List He.DefD} {ck : PySem.W.Frag → Bool} {ts : List (Str × List Str)} {w : World} {K : PySem.W.Frag} (c : SaysZT fa fn ck ts w K) {t : Str × List Str} (ht : t ∈ ts) : ∃ es n, L2.KDict K w (He.ga K t.1) es n := by
  have e : ts.map (fun t => He.dicW K (He.ga K t.1)) = ts.map fun t => some (He.keysIn w.params t.2) := congrArg (fun z : AlZ => z.2) c
  obtain ⟨i, hi, et⟩ := List.mem_iff_getElem.mp ht
  have e2 := congrArg (fun l : List _ => l[i]?) e
  simp only [List.getElem?_map, List.getElem?_eq_getElem hi, et, Option.map_some, Option.some.injEq] at e2
  exact He.dicW_ok e2
section
variable {fa : List He.Fa} {fn : List He.DefD} {ck : PySem.W.Frag → Bool} {K : PySem.W.Frag}
theorem SaysZ.d (c : SaysZ fa fn ck K) : He.SaysD fa fn K := by
  have h1 : ((He.obsD fa fn K).1 && ck K) = true := congrArg (fun z : He.AlD => z.1) c
  have h2 : (obsZ fa fn ck K).2 = (He.valD fn).2 := congrArg (fun z : He.AlD => z.2) c
  exact Prod.ext (Bool.and_eq_true_iff.mp h1).1 h2
theorem SaysZ.own (c : SaysZ fa fn ck K) : ck K = true := by
  have h1 : ((He.obsD fa fn K).1 && ck K) = true := congrArg (fun z : He.AlD => z.1) c
  exact (Bool.and_eq_true_iff.mp h1).2
end
end Z
end

section
/-! ZSb: what the written part says of error classes, decided. -/
namespace Z
open PySem PySem.Spec PyProof.Rows L2
def oexB (K : PySem.W.Frag) (C : Addr) : Bool := (match K.lookup C with
    | some ⟨.type t, _, .cls cd, sl⟩ => decide (t = "type") && (match cd.mro, sl.toList with
      | .ref C' :: bm, [_, _, _, _, some (.builtin n), _] => decide (C' = C) && decide (n = "ValueError.__new__") && !cd.hasDel && cd.hasDict && PySem.HandSPX.refsVE bm
      | _, _ => false)
    | _ => false) && decide (PySem.W.findIn K (.ref C) "__setattr__" = some (some (.builtin "object.__setattr__"))) && decide (PySem.W.subIn K (.ref C) (.type "BaseException") = some true) && decide (PySem.W.typeIn K (.ref C) = some (.type "type")) && PySem.W.keepIn K (.ref C)
theorem oexB_ok {K : PySem.W.Frag} {C : Addr} (h : oexB K C = true) : OexC K C := by
  unfold oexB at h
  simp only [Bool.and_eq_true, decide_eq_true_eq] at h
  obtain ⟨⟨⟨⟨h1, h2⟩, h3⟩, h4⟩, h5⟩ := h
  refine ⟨?_, h2, h3, h4, h5⟩
  split at h1
  · rename_i t dd cd sl hl
    simp only [Bool.and_eq_true, decide_eq_true_eq] at h1
    obtain ⟨ht, h1⟩ := h1
    split at h1
    · rename_i C' bm k0 k1 k2 k3 n k5 hm hs
      simp only [Bool.and_eq_true, decide_eq_true_eq, Bool.not_eq_true'] at h1
      obtain ⟨⟨⟨⟨e1, e2⟩, e3⟩, e4⟩, e5⟩ := h1
      subst ht e1 e2
      obtain ⟨c1, c2, c3, c4, c5, c6, c7, c8, c9, c10, c11⟩ := cd
      simp only at hm e3 e4
      subst hm e3 e4
      have hs' : sl = #[k0, k1, k2, k3, some (.builtin "ValueError.__new__"), k5] := by
        apply Array.ext'
        rw [hs]
      subst hs'
      exact ⟨c1, c5, c4, c2, bm, c7, c8, c9, c10, dd, k0, k1, k2, k3, k5, hl, e5⟩
    · cases h1
  · cases h1
def eccB (K : PySem.W.Frag) (D : Addr) : Bool :=
  decide (PySem.W.findIn K (.ref D) "__getattribute__" = some (some (.builtin "BaseException.__getattribute__"))) && decide (PySem.W.findIn K (.ref D) "__getattr__" = some none) && decide (PySem.W.subIn K (.ref D) (.type "BaseException") = some true) && PySem.W.hasDictIn K D &&
  decide (PySem.W.findIn K (.ref D) "__class__" = some (some (.builtin "object.__class__"))) && decide (PySem.W.specialIn K (.builtin "object.__class__") "__get__" = some (some (.builtin "getset_descriptor.__get__"))) && decide (PySem.W.takesIn K (.builtin "object.__class__") = some true) && decide (PySem.W.mroIn K D (.type "object") = some true)
theorem eccB_ok {K : PySem.W.Frag} {D : Addr} (h : eccB K D = true) : ExcC K D ∧ XfC K D := by
  unfold eccB at h
  simp only [Bool.and_eq_true, decide_eq_true_eq] at h
  obtain ⟨⟨⟨⟨⟨⟨⟨h1, h2⟩, h3⟩, h4⟩, h5⟩, h6⟩, h7⟩, h8⟩ := h
  exact ⟨⟨h1, h2, h3, h4, h5, h6, h7, h8⟩, ⟨h1, h2, h3, h4⟩⟩
end Z
end

section
/-! ZSc: names of fields. -/
namespace Z
open PySem PySem.Spec PyProof.Rows L2
def fnmOf (l : List Str) (f : Nat) : Str := match l[f]? with
  | some x => x
  | none => mkS (List.replicate (f + 1) 0)
def fnamesOk (l : List Str) : Bool := decide l.Nodup && l.all fun x => x.cps.toList.any fun c => c != 0
theorem fnmOf_some {l : List Str} {f : Nat} {x : Str} (h : l[f]? = some x) : fnmOf l f = x := by
  unfold fnmOf; rw [h]
theorem fnmOf_inj {l : List Str} (h : fnamesOk l = true) : ∀ f f', fnmOf l f = fnmOf l f' → f = f' := by
  simp only [fnamesOk, Bool.and_eq_true, decide_eq_true_eq, List.all_eq_true] at h
  obtain ⟨nd, hz⟩ := h
  have clash : ∀ (x : Str) (n : Nat), x ∈ l → x ≠ mkS (List.replicate n 0) := fun x n hx e => by
    obtain ⟨c, hc, hne⟩ := List.any_eq_true.mp (hz x hx)
    rw [e, mkS_cps] at hc
    have := List.eq_of_mem_replicate hc
    subst this
    simp at hne
  intro f f' e
  unfold fnmOf at e
  cases h1 : l[f]? with
  | some x =>
    rw [h1] at e
    cases h2 : l[f']? with
    | some y =>
      rw [h2] at e
      simp only at e
      subst e
      obtain ⟨a1, a2⟩ := List.getElem?_eq_some_iff.mp h1
      obtain ⟨b1, b2⟩ := List.getElem?_eq_some_iff.mp h2
      exact (List.getElem_inj nd).mp (a2.trans b2.symm)
    | none =>
      rw [h2] at e
      exact absurd e (clash x _ (List.mem_of_getElem? h1))
  | none =>
    rw [h1] at e
    cases h2 : l[f']? with
    | some y =>
      rw [h2] at e
      exact absurd e.symm (clash y _ (List.mem_of_getElem? h2))
    | none =>
      rw [h2] at e
      have := congrArg List.length (mkS_inj e)
      simp at this
      exact this
end Z
end

section
/-! ZSd: a program's text with its error classes. -/
namespace Z
open PySem PySem.Spec PyProof.Rows L2
/-- an error class: fields from parameters in the order of the stores; its __init__ with its names, if it has one -/
structure EE where
  name : Str
  np : Nat
  fl : List (Nat × Nat)
  ini : Option (List Str × He.DefD)
structure DD where
  md : MD
  N : List Str
  d : He.DefD
structure Txt where
  defs : List DD
  consts : List (Str × PV)
  fnames : List Str := []
  errs : List EE := []
  subs : List (List Bool) := []
  hots : List Nat := []
  cls : List CI := []
  tabs : List (Str × List Sg) := []
  dtabs : List (Str × List (Sg × PV)) := []
def EE.ei (e : EE) : EI := ⟨e.name, e.np, e.fl⟩
def Txt.sub (t : Txt) (c c' : Nat) : Bool := ((t.subs[c]?).bind (·[c']?)).getD false
def Txt.xin (t : Txt) (c : Nat) : Option (Nat × List (Nat × Nat)) := (t.errs[c]?).map fun e => (e.np, e.fl)
def Txt.ead (t : Txt) (K : PySem.W.Frag) (c : Nat) : Addr := match t.errs[c]? with
  | some e => He.ga K e.name
  | none => 0
def Txt.cad (t : Txt) (K : PySem.W.Frag) (c : Nat) : Addr := match t.cls[c]? with
  | some e => He.ga K e.name
  | none => 0
def Txt.nm (t : Txt) (K : PySem.W.Frag) : Nm := { cad := t.cad K, ead := t.ead K, fnm := fnmOf t.fnames, cur := none }
def Txt.tab (t : Txt) : Tab := { cls := t.cls, defs := t.defs.map fun q => (if q.d.at_.2.isNone then some q.d.at_.1 else none, q.md.ar), glbs := t.consts.map (·.1), fnames := t.fnames, errs := t.errs.map EE.ei, hots := t.hots, tabs := t.tabs.map (·.1), dtabs := t.dtabs.map (·.1) }
def Txt.prog (t : Txt) (shr : Nat → Bool) (wf : Nat) : Prog := { defs := t.defs.map (·.md), glb := fun i => (t.consts[i]?).map (·.2), shr := shr, wf := wf, nf := t.fnames.length, xin := t.xin, sub := t.sub, tab := fun i => (t.tabs[i]?).map (·.2), dtab := fun i => (t.dtabs[i]?).map (·.2) }
/-- what K is asked of the error classes -/
def errB (K : PySem.W.Frag) (t : Txt) (e : EE) : Bool := eccB K (He.ga K e.name) && e.fl.all (fun q => decide (PySem.W.findIn K (.ref (He.ga K e.name)) (fnmOf t.fnames q.1) = some none)) && (match e.ini with
  | none => PySem.W.excIn K (He.ga K e.name) He.veBase "ValueError.__new__" && PySem.W.keepIn K (.ref (He.ga K e.name)) && decide (PySem.W.typeIn K (.ref (He.ga K e.name)) = some (.type "type"))
  | some _ => oexB K (He.ga K e.name) && decide (PySem.W.findIn K (.ref (He.ga K e.name)) "__init__" = some (some (.ref (He.ma K (He.ga K e.name) "__init__")))) && decide (PySem.W.typeIn K (.ref (He.ma K (He.ga K e.name) "__init__")) = some (.type "function")))
def subB (K : PySem.W.Frag) (t : Txt) : Bool := (List.range t.errs.length).all fun c => (List.range t.errs.length).all fun c' =>
  decide (PySem.W.exmOne K (.ref (t.ead K c)) (.ref (t.ead K c')) = some (t.sub c c')) && decide (PySem.W.kitOne K (.ref (t.ead K c)) (.ref (t.ead K c')) = some (t.sub c c'))
/-- what K is asked of the classes -/
def methB (K : PySem.W.Frag) (t : Txt) (C : Addr) (q : Str × Nat × Nat) : Bool := match t.defs[q.2.1]? with
  | some d => decide (d.md.ar = q.2.2) && decide (PySem.W.findIn K (.ref C) q.1 = some (some (.ref (He.fAd K d.d.at_)))) && PySem.W.isFn K (.ref (He.fAd K d.d.at_)) && PySem.W.keepIn K (.ref (He.fAd K d.d.at_)) &&
    (!decide (q.1 = ("__init__" : Str)) || (PySem.W.makesIn K C && PySem.W.keepIn K (.ref C)))
  | none => false
def clsB (K : PySem.W.Frag) (t : Txt) (ci : CI) : Bool := (He.Fa.cls ci.name).ok K && ci.fields.all (fun f => decide (PySem.W.findIn K (.ref (He.ga K ci.name)) (fnmOf t.fnames f) = some none)) && ci.meths.all (methB K t (He.ga K ci.name))
/-- texts, one behind the other -/
def txsB : List Sg → List Value → Bool
  | [], [] => true
  | p :: ps, .str s _ :: vs => decide (s = mkS p) && okS p && txsB ps vs
  | _, _ => false
def tabB (K : PySem.W.Frag) (q : Str × List Sg) : Bool := (He.Fa.glo q.1).ok K && (match K.lookup (He.ga K q.1) with
  | some o => decide (o.cls = .type "tuple") && decide (o.dict = none) && (match o.data with
    | .seq its _ => decide (its.size ≤ 1000) && txsB q.2 its.toList
    | _ => false)
  | none => false)
/-- a value of a module's dict -/
def dvB : PV → Value → Bool
  | .int i, .int j _ => decide (i = j)
  | .str s, .str x _ => decide (x = mkS s) && okS s
  | _, _ => false
theorem dvB_ok {K : PySem.W.Frag} {p : PV} {u : Value} (h : dvB p u = true) : ∃ v, L2.RelV v u ∧ RP K (fun _ => none) p v := by
  cases p <;> cases u <;> simp only [dvB, Bool.and_eq_true, decide_eq_true_eq, Bool.false_eq_true] at h
  · subst h; exact ⟨.int _, ⟨_, rfl⟩, by simp only [RP]⟩
  · obtain ⟨h1, h2⟩ := h
    subst h1
    exact ⟨.str _, ⟨_, rfl⟩, by simp only [RP, true_and]; exact h2⟩
def dtabB (K : PySem.W.Frag) (q : Str × List (Sg × PV)) : Bool := (He.Fa.glo q.1).ok K && q.2.all fun kv => match PySem.W.nsIn K (He.ga K q.1) (mkS kv.1) with
  | some (some u) => dvB kv.2 u
  | _ => false
/-- the keys of the module's dicts -/
def Txt.dts (t : Txt) : List (Str × List Str) := t.dtabs.map fun q => (q.1, q.2.map fun kv => mkS kv.1)
def Txt.ck (t : Txt) (K : PySem.W.Frag) : Bool := t.errs.all (errB K t) && subB K t && t.cls.all (clsB K t) && t.tabs.all (tabB K) && t.dtabs.all (dtabB K)
theorem txsB_ok : ∀ {ps : List Sg} {vs : List Value}, txsB ps vs = true → Vals ((ps.map mkS).map V.str) vs ∧ ∀ p ∈ ps, okS p = true
  | [], [], _ => ⟨.nil, fun p hp => by simp at hp⟩
  | [], _ :: _, h => by simp [txsB] at h
  | p :: ps, [], h => by simp [txsB] at h
  | p :: ps, v :: vs, h => by
    cases v <;> simp only [txsB, Bool.and_eq_true, decide_eq_true_eq, Bool.false_eq_true] at h
    obtain ⟨⟨h1, h2⟩, h3⟩ := h
    obtain ⟨i1, i2⟩ := txsB_ok h3
    subst h1
    refine ⟨.cons ⟨_, rfl⟩ i1, fun q hq => ?_⟩
    rcases List.mem_cons.mp hq with z | z
    · rw [z]; exact h2
    · exact i2 q z
theorem subB_ok {K : PySem.W.Frag} {t : Txt} (h : subB K t = true) {c c' : Nat} (hc : c < t.errs.length) (hc' : c' < t.errs.length) :
    PySem.W.exmOne K (.ref (t.ead K c)) (.ref (t.ead K c')) = some (t.sub c c') ∧ PySem.W.kitOne K (.ref (t.ead K c)) (.ref (t.ead K c')) = some (t.sub c c') := by
  have h1 := List.all_eq_true.mp h c (List.mem_range.mpr hc)
  have h2 := List.all_eq_true.mp h1 c' (List.mem_range.mpr hc')
  simpa only [Bool.and_eq_true, decide_eq_true_eq] using h2
end Z
end

section
/-! ZS: defs. -/
namespace Z
open PySem PySem.Spec PyProof.Rows L2
/-! ### binding -/
theorem zip_lookup {α : Type} {x : Str} : ∀ {ps : List Str} {us : List α}, ps.length = us.length → x ∈ ps → ∃ u, (ps.zip us).lookup x = some u
  | [], [], _, h => absurd h (by simp)
  | p :: ps, u :: us, hl, h => by
    by_cases e : x = p
    · subst e; exact ⟨u, by simp [List.lookup]⟩
    · have hm : x ∈ ps := by
        rcases List.mem_cons.mp h with z | z
        · exact absurd z e
        · exact z
      obtain ⟨w, hw⟩ := zip_lookup (ps := ps) (us := us) (by simpa using hl) hm
      refine ⟨w, ?_⟩
      have hb : (x == p) = false := by simpa using e
      simp only [List.zip_cons_cons, List.lookup, hb]
      exact hw
theorem zip_same {α : Type} : ∀ {ps : List Str} {us : List α} {pre : List (Str × α)}, ps.length = us.length → ps.Nodup → (∀ p ∈ ps, pre.lookup p = none) → (ps.filterMap fun n => ((pre ++ ps.zip us).lookup n).map (n, ·)) = ps.zip us
  | [], [], _, _, _, _ => rfl
  | p :: ps, u :: us, pre, hl, hn, hp => by
    have h1 : ((pre ++ (p :: ps).zip (u :: us)).lookup p) = some u := by
      rw [List.lookup_append, hp p List.mem_cons_self]
      simp [List.lookup]
    rw [List.filterMap_cons, h1]
    simp only [Option.map_some, List.zip_cons_cons, List.cons.injEq, true_and]
    have hn' := List.nodup_cons.mp hn
    have ih := zip_same (ps := ps) (us := us) (pre := pre ++ [(p, u)]) (by simpa using hl) hn'.2 fun q hq => by
      rw [List.lookup_append, hp q (List.mem_cons_of_mem _ hq)]
      have e : (q == p) = false := by
        simp only [beq_eq_false_iff_ne]
        intro z
        subst z
        exact hn'.1 hq
      simp [List.lookup, e]
    rw [List.append_assoc, List.singleton_append] at ih
    exact ih
theorem bind_plain {x qual : Str} {as : List Arg} {kd : List (Option Expr)} {body : List Stmt} {scope : Scope} {kV doc pm cdv ct : Value} {an : Option Addr} {us : List Value} (hl : us.length = (as.map (·.arg)).length) (hn : (as.map (·.arg)).Nodup) :
    bindArgs (PySem.W.fnOf x qual ⟨[], as, none, [], kd, none, []⟩ body scope .none kV doc pm an cdv ct) ⟨us, []⟩ = pure ((as.map (·.arg)).zip us) := by
  have h1 : ((as.map (·.arg)).filter fun n => (((as.map (·.arg)).zip us).lookup n).isNone) = [] := by
    apply List.filter_eq_nil_iff.mpr
    intro p hp
    obtain ⟨u, hu⟩ := zip_lookup hl.symm hp
    simp [hu]
  have h2 := zip_same (us := us) (pre := []) hl.symm hn fun p _ => rfl
  rw [List.nil_append] at h2
  have h3 : seqItems? Value.none = pure none := rfl
  unfold bindArgs
  simp only [PySem.W.fnOf, List.map_nil, List.nil_append, List.forIn_nil, pure_bind, h3, Option.getD_none, Array.toList_empty, List.length_nil, Nat.zero_sub, List.drop_nil, Nat.sub_zero, Option.isNone_none, Bool.and_true, List.zip_nil_right, List.isEmpty_nil, Bool.not_true, Bool.false_eq_true, if_false, List.append_nil, h2]
  rw [hl]
  simp only [Nat.lt_irrefl, gt_iff_lt, if_false, decide_false, Bool.false_eq_true, List.take_length, h1, List.isEmpty_nil, Bool.not_true, pure_bind]
/-! ### a program by its defs -/
def argsOf (p : Arguments) : Option (List Str) := match p with
  | ⟨[], as, none, [], _, none, []⟩ => some (as.map (·.arg))
  | _ => none
def chkDef (T : Tab) (q : DD) : Bool :=
  decide (argsOf q.d.params = some (q.N.take q.md.ar)) && decide (q.N.length = q.md.nn) && decide (q.md.ar ≤ q.md.nn) && decide q.N.Nodup && decide (q.d.scope.kind = .function) && !q.d.scope.isCoroutine && !q.d.scope.isGenerator &&
  (q.N.take q.md.ar).all (fun x => decide (q.d.scope.names.lookup x = some .local) || decide (q.d.scope.names.lookup x = some .cell)) && q.d.scope.names.all (fun y => decide (y.2 ≠ .free)) &&
  q.d.dfl.isEmpty && q.d.kwd.isEmpty && chkSs { N := q.N, sc := q.d.scope, fn := fun _ => true, T := T } q.md.body q.d.body
def constFa : Str × PV → He.Fa
  | (x, .int i) => .int x i
  | (x, .str s) => .str x (mkS s)
  | (x, _) => .free x
def constOk : Str × PV → Bool
  | (_, .int _) => true
  | (_, .str s) => okS s
  | _ => false
def Txt.fa (t : Txt) : List He.Fa := t.defs.map (fun q => .glo q.d.at_.1) ++ (frees.map .free ++ (t.consts.map constFa ++ (t.errs.map (fun e => .glo e.name) ++ t.cls.map fun c => .glo c.name)))
def EE.defs (e : EE) : List He.DefD := match e.ini with
  | some q => [q.2]
  | none => []
def Txt.fn (t : Txt) : List He.DefD := t.defs.map (·.d) ++ t.errs.flatMap EE.defs
/-- the names and scope of a def -/
def chkSc (N ps : List Str) (d : He.DefD) : Bool :=
  decide (argsOf d.params = some ps) && decide (N.take ps.length = ps) && decide N.Nodup && decide (d.scope.kind = .function) && !d.scope.isCoroutine && !d.scope.isGenerator &&
  ps.all (fun x => decide (d.scope.names.lookup x = some .local) || decide (d.scope.names.lookup x = some .cell)) && d.scope.names.all (fun y => decide (y.2 ≠ .free)) && d.dfl.isEmpty && d.kwd.isEmpty
def chkErr (t : Txt) (e : EE) : Bool := match e.ini with
  | none => e.fl.isEmpty && decide (e.np = 0)
  | some (N, d) => decide (0 < e.np) && decide (e.np ≤ 100) && decide (N.length = e.np + 1) && chkSc N N d && decide (d.at_ = (e.name, some ("__init__" : Str))) && !e.fl.isEmpty && decide (e.fl.length ≤ 800) && chkInit N d.scope (e.fl.map fun q => (fnmOf t.fnames q.1, q.2)) d.body
def Txt.ok (t : Txt) : Bool := t.defs.all (chkDef t.tab) && t.consts.all constOk && t.errs.all (chkErr t) && fnamesOk t.fnames &&
  t.hots.all fun f => match t.defs[f]? with
    | some q => chkSs { N := q.N, sc := q.d.scope, fn := fun _ => true, T := t.tab, hot := true } q.md.body q.d.body
    | none => true
theorem sc_ok {N ps : List Str} {d : He.DefD} (h : chkSc N ps d = true) : FnScope N ps d.scope ∧ (∀ (kV doc pm cdv ct : Value) (an : Option Addr) (us : List Value), us.length = ps.length → bindArgs (PySem.W.fnOf d.name d.qual d.params d.body d.scope .none kV doc pm an cdv ct) ⟨us, []⟩ = pure (ps.zip us)) ∧ d.dfl.isEmpty = true ∧ d.kwd.isEmpty = true := by
  simp only [chkSc, Bool.and_eq_true, decide_eq_true_eq] at h
  obtain ⟨⟨⟨⟨⟨⟨⟨⟨⟨h1, h2⟩, h3⟩, h4⟩, h5⟩, h6⟩, h7⟩, h8⟩, h9⟩, h10⟩ := h
  refine ⟨⟨h4, by simpa using h5, by simpa using h6, h3, h2, fun x hx => ?_, fun y hy => ?_⟩, fun kV doc pm cdv ct an us hl => ?_, h9, h10⟩
  · have := List.all_eq_true.mp h7 x hx
    simpa [Bool.or_eq_true] using this
  · have := List.all_eq_true.mp h8 y hy
    simpa using this
  · unfold argsOf at h1
    split at h1
    · rename_i as kd hp
      simp only [Option.some.injEq] at h1
      rw [hp, ← h1]
      refine bind_plain (by rw [h1]; exact hl) ?_
      rw [h1, ← h2]
      exact h3.sublist (List.take_sublist _ _)
    · cases h1
end Z
end

section
/-! ZSf: every def of the text keeps its promise. -/
namespace Z
open PySem PySem.Spec PyProof.Rows L2
theorem fa_all {fa : List He.Fa} {fn : List He.DefD} {K : PySem.W.Frag} (c : He.SaysD fa fn K) {f : He.Fa} (h : f ∈ fa) : f.ok K = true := by
  obtain ⟨i, hi, e⟩ := List.mem_iff_getElem.mp h
  exact c.fact i (by rw [List.getElem?_eq_getElem hi, e])
theorem fn_mem {fa : List He.Fa} {fn : List He.DefD} {K : PySem.W.Frag} (c : He.SaysD fa fn K) {d : He.DefD} (h : d ∈ fn) : ∃ fd, FunD K d.name d.qual d.params d.body d.scope (d.dvs K) (d.kws K) (He.fAd K d.at_) fd := by
  obtain ⟨i, hi, e⟩ := List.mem_iff_getElem.mp h
  exact c.def_ i (by rw [List.getElem?_eq_getElem hi, e])
theorem sl_start {M : Nm} {K : PySem.W.Frag} {F : Hp} {ρ : List Addr} {args : List LV} {vs : List V} {N : List Str} (r : RLs K F ρ args vs) : SL M K F ρ (start N vs) (args.map some ++ List.replicate (N.length - args.length) none) := by
  have hl := r.length
  refine ⟨by simp [L2.start, hl], fun i x hx => ?_⟩
  by_cases hi : i < args.length
  · rw [List.getElem?_append_left (by simpa using hi), List.getElem?_map, Option.map_eq_some_iff] at hx
    obtain ⟨y, e1, e2⟩ := hx
    cases e2
    obtain ⟨v, h1, h2⟩ := r.get e1
    refine ⟨v, ?_, .of h2⟩
    unfold L2.start
    rw [List.getElem?_append_left (by rw [List.length_map, ← hl]; exact hi), List.getElem?_map, h1]
    rfl
  · rw [List.getElem?_append_right (by simpa using hi), List.getElem?_replicate] at hx
    split at hx <;> cases hx
theorem dvs_nil {d : He.DefD} {K : PySem.W.Frag} (h : d.dfl.isEmpty = true) : d.dvs K = [] := by
  unfold He.DefD.dvs
  rw [List.isEmpty_iff.mp h]; rfl
theorem kws_nil {d : He.DefD} {K : PySem.W.Frag} (h : d.kwd.isEmpty = true) : d.kws K = [] := by
  unfold He.DefD.kws
  rw [List.isEmpty_iff.mp h]; rfl
structure DefOk (T : Tab) (q : DD) : Prop where
  args : argsOf q.d.params = some (q.N.take q.md.ar)
  nn : q.N.length = q.md.nn
  ar : q.md.ar ≤ q.md.nn
  nd : q.N.Nodup
  kind : q.d.scope.kind = .function
  co : q.d.scope.isCoroutine = false
  gen : q.d.scope.isGenerator = false
  par : ∀ x ∈ q.N.take q.md.ar, q.d.scope.names.lookup x = some .local ∨ q.d.scope.names.lookup x = some .cell
  nofree : ∀ y ∈ q.d.scope.names, y.2 ≠ .free
  dfl : q.d.dfl.isEmpty = true
  kwd : q.d.kwd.isEmpty = true
  body : chkSs { N := q.N, sc := q.d.scope, fn := fun _ => true, T := T } q.md.body q.d.body = true
theorem DefOk.of {T : Tab} {q : DD} (h : chkDef T q = true) : DefOk T q := by
  simp only [chkDef, Bool.and_eq_true, decide_eq_true_eq] at h
  obtain ⟨⟨⟨⟨⟨⟨⟨⟨⟨⟨⟨h1, h2⟩, h3⟩, h4⟩, h5⟩, h6⟩, h7⟩, h8⟩, h9⟩, h11⟩, h12⟩, h13⟩ := h
  refine ⟨h1, h2, h3, h4, h5, by simpa using h6, by simpa using h7, fun x hx => ?_, fun y hy => ?_, h11, h12, h13⟩
  · have := List.all_eq_true.mp h8 x hx
    simpa [Bool.or_eq_true] using this
  · have := List.all_eq_true.mp h9 y hy
    simpa using this
theorem DefOk.len {T : Tab} {q : DD} (h : DefOk T q) : (q.N.take q.md.ar).length = q.md.ar := by
  have h1 := h.nn
  have h2 := h.ar
  rw [List.length_take, h1]; omega
theorem DefOk.scope {T : Tab} {q : DD} (h : DefOk T q) : FnScope q.N (q.N.take q.md.ar) q.d.scope := ⟨h.kind, h.co, h.gen, h.nd, by rw [h.len], h.par, h.nofree⟩
theorem DefOk.binds {T : Tab} {q : DD} (h : DefOk T q) {kV doc pm cdv ct : Value} {an : Option Addr} {us : List Value} (hl : us.length = (q.N.take q.md.ar).length) :
    bindArgs (PySem.W.fnOf q.d.name q.d.qual q.d.params q.d.body q.d.scope .none kV doc pm an cdv ct) ⟨us, []⟩ = pure ((q.N.take q.md.ar).zip us) := by
  have h1 := h.args
  unfold argsOf at h1
  split at h1
  · rename_i as kd hp
    simp only [Option.some.injEq] at h1
    rw [hp, ← h1]
    exact bind_plain (by rw [h1]; exact hl) (by rw [h1]; exact h.nd.sublist (List.take_sublist _ _))
  · cases h1
section
variable {P : Program} {w : World} {K : PySem.W.Frag} {mg : Str → Option Value} {base h : Heap} {t : Txt} {M : Nm} {shr : Nat → Bool} {wf : Nat}
theorem endR_post {F H : Hp} {ρ : List Addr} {Q : VK} {E : XK} {fr : FR} {r : ER} (e : endR (some fr) = some r) (p : PostE M K (fun cls d _ H => E cls d H) [] F ρ H Q r) :
    PostS M K (fun cls d _ H => E cls d H) F ρ H { nx := fun _ H' => Q .non H', rt := Q } fr := by
  cases fr with
  | nx φ st =>
    simp only [endR, Option.some.injEq] at e
    subst e
    exact fun F' ρ' H' σ' g h s => p F' ρ' H' .non g h (by simp only [RL, RP])
  | rt v st =>
    simp only [endR, Option.some.injEq] at e
    subst e
    exact p
  | bk φ st => simp [endR] at e
  | ct φ st => simp [endR] at e
  | ex x φ st =>
    simp only [endR, Option.some.injEq] at e
    subst e
    exact fun F' ρ' H' σ' cls d g h s x => p F' ρ' H' cls d g h x
/-- what K says of the text -/
structure Says (t : Txt) (w : World) (K : PySem.W.Frag) (h : Heap) (mg : Str → Option Value) : Prop where
  kin : K.In h
  ns : h.Ns mainGlobals mg
  c : He.SaysD t.fa t.fn K
  ck : t.ck K = true
  dt : ∀ q ∈ t.dts, ∃ es n, L2.KDict K w (He.ga K q.1) es n
  ok : t.ok = true
structure TxtOk (t : Txt) : Prop where
  defs : ∀ q ∈ t.defs, DefOk t.tab q
  consts : ∀ q ∈ t.consts, constOk q = true
  errs : ∀ q ∈ t.errs, chkErr t q = true
  fn : fnamesOk t.fnames = true
  hots : ∀ f ∈ t.hots, ∀ q, t.defs[f]? = some q → chkSs { N := q.N, sc := q.d.scope, fn := fun _ => true, T := t.tab, hot := true } q.md.body q.d.body = true
theorem TxtOk.of (h : t.ok = true) : TxtOk t := by
  simp only [Txt.ok, Bool.and_eq_true, List.all_eq_true] at h
  obtain ⟨⟨⟨⟨h1, h2⟩, h3⟩, h4⟩, h5⟩ := h
  refine ⟨fun q hq => .of (h1 q hq), h2, h3, h4, fun f hf q hq => ?_⟩
  have := h5 f hf
  rw [hq] at this
  exact this
theorem Says.free (Y : Says t w K h mg) {x : Str} (hx : x ∈ frees) : mg x = none := He.free_ok Y.kin Y.ns (fa_all Y.c (by
    unfold Txt.fa
    exact List.mem_append_right _ (List.mem_append_left _ (List.mem_map.mpr ⟨x, hx, rfl⟩))))
theorem Says.defAt (Y : Says t w K h mg) {f : Nat} {q : DD} (hq : t.defs[f]? = some q) : mg q.d.at_.1 = some (.ref (He.ga K q.d.at_.1)) := by
  have hm := List.mem_of_getElem? hq
  exact He.glo_ok Y.kin Y.ns (fa_all Y.c (by unfold Txt.fa; exact List.mem_append_left _ (List.mem_map.mpr ⟨q, hm, rfl⟩)))
theorem Says.one (Y : Says t w K h mg) {f : Nat} {q : DD} (hq : t.defs[f]? = some q) : ∃ fd, FunD K q.d.name q.d.qual q.d.params q.d.body q.d.scope [] [] (He.fAd K q.d.at_) fd := by
  have hm := List.mem_of_getElem? hq
  have D := (TxtOk.of Y.ok).defs q hm
  obtain ⟨fd, F⟩ := fn_mem Y.c (d := q.d) (by unfold Txt.fn; exact List.mem_append_left _ (List.mem_map.mpr ⟨q, hm, rfl⟩))
  rw [dvs_nil D.dfl, kws_nil D.kwd] at F
  exact ⟨fd, F⟩
theorem Says.glb (Y : Says t w K h mg) (i : Nat) (x : Str) (z : PV) (h1 : t.tab.glbs[i]? = some x) (h2 : (t.consts[i]?).map (·.2) = some z) : ∃ u v, mg x = some u ∧ L2.RelV v u ∧ flat z = true ∧ RP K (fun _ => none) z v := by
  have h1' : (t.consts.map (·.1))[i]? = some x := h1
  rw [List.getElem?_map, Option.map_eq_some_iff] at h1'
  obtain ⟨y, e1, e2⟩ := h1'
  rw [e1] at h2
  simp only [Option.map_some, Option.some.injEq] at h2
  obtain ⟨yx, yz⟩ := y
  simp only at e2 h2
  subst e2 h2
  have hk := (TxtOk.of Y.ok).consts _ (List.mem_of_getElem? e1)
  have hf : constFa (yx, yz) ∈ t.fa := by
    unfold Txt.fa
    exact List.mem_append_right _ (List.mem_append_right _ (List.mem_append_left _ (List.mem_map.mpr ⟨_, List.mem_of_getElem? e1, rfl⟩)))
  cases yz <;> simp only [constOk, Bool.false_eq_true] at hk
  · obtain ⟨tk, hm⟩ := He.int_ok Y.kin Y.ns (fa_all Y.c hf)
    exact ⟨_, .int _, hm, ⟨tk, rfl⟩, rfl, by simp only [RP]⟩
  · obtain ⟨tk, hm⟩ := He.str_ok Y.kin Y.ns (fa_all Y.c hf)
    exact ⟨_, .str _, hm, ⟨tk, rfl⟩, rfl, by simp only [RP, true_and]; exact hk⟩
theorem Says.ck3 (Y : Says t w K h mg) : (∀ e ∈ t.errs, errB K t e = true) ∧ subB K t = true ∧ ∀ c ∈ t.cls, clsB K t c = true := by
  have h := Y.ck
  simp only [Txt.ck, Bool.and_eq_true, List.all_eq_true] at h
  exact ⟨h.1.1.1.1, h.1.1.1.2, h.1.1.2⟩
theorem Says.tabs (Y : Says t w K h mg) (i : Nat) (x : Str) (h1 : t.tab.tabs[i]? = some x) : ∃ (ps : List Sg) (a : Addr), (t.tabs[i]?).map (·.2) = some ps ∧ mg x = some (.ref a) ∧ (∀ H, SqT K H a ((ps.map mkS).map V.str)) ∧ (∃ o, K.lookup a = some o ∧ o.cls = .type "tuple" ∧ o.dict = none) ∧ ∀ p ∈ ps, okS p = true := by
  have h1' : (t.tabs.map (·.1))[i]? = some x := h1
  rw [List.getElem?_map, Option.map_eq_some_iff] at h1'
  obtain ⟨q, e1, e2⟩ := h1'
  subst e2
  have hc := Y.ck
  simp only [Txt.ck, Bool.and_eq_true, List.all_eq_true] at hc
  have hb := hc.1.2 q (List.mem_of_getElem? e1)
  simp only [tabB, Bool.and_eq_true] at hb
  obtain ⟨b1, b2⟩ := hb
  split at b2
  · rename_i o ho
    simp only [Bool.and_eq_true, decide_eq_true_eq] at b2
    obtain ⟨⟨c1, c2⟩, c3⟩ := b2
    split at c3
    · rename_i its n hd
      simp only [Bool.and_eq_true, decide_eq_true_eq] at c3
      obtain ⟨d1, d2⟩ := c3
      obtain ⟨v1, v2⟩ := txsB_ok d2
      refine ⟨q.2, He.ga K q.1, by rw [e1]; rfl, He.glo_ok Y.kin Y.ns b1, fun H => .inr ⟨o, its, n, ho, c1, hd, ?_, v1⟩, ⟨o, ho, c1, c2⟩, v2⟩
      have : sizeLine = 16777216 := rfl
      omega
    · cases c3
  · cases b2
theorem Says.dtabs (Y : Says t w K h mg) (i : Nat) (x : Str) (h1 : t.tab.dtabs[i]? = some x) : ∃ (kvs : List (Sg × PV)) (a : Addr), (t.dtabs[i]?).map (·.2) = some kvs ∧ mg x = some (.ref a) ∧ DtOk K w a kvs := by
  have h1' : (t.dtabs.map (·.1))[i]? = some x := h1
  rw [List.getElem?_map, Option.map_eq_some_iff] at h1'
  obtain ⟨q, e1, e2⟩ := h1'
  subst e2
  have hc := Y.ck
  simp only [Txt.ck, Bool.and_eq_true, List.all_eq_true] at hc
  have hm := List.mem_of_getElem? e1
  have hb := hc.2 q hm
  simp only [dtabB, Bool.and_eq_true, List.all_eq_true] at hb
  obtain ⟨b1, b2⟩ := hb
  obtain ⟨es, n, D⟩ := Y.dt (q.1, q.2.map fun kv => mkS kv.1) (List.mem_map.mpr ⟨q, hm, rfl⟩)
  refine ⟨q.2, He.ga K q.1, by rw [e1]; rfl, He.glo_ok Y.kin Y.ns b1, es, n, D, fun kv hkv => ?_⟩
  have := b2 kv hkv
  split at this
  · rename_i u hu
    obtain ⟨v, r1, r2⟩ := dvB_ok (K := K) this
    exact ⟨u, v, hu, r1, r2⟩
  · cases this
theorem tab_errs {c : Nat} {ei : EI} (h : t.tab.errs[c]? = some ei) : ∃ e, t.errs[c]? = some e ∧ e.ei = ei := by
  have h' : (t.errs.map EE.ei)[c]? = some ei := h
  rw [List.getElem?_map, Option.map_eq_some_iff] at h'
  exact h'
theorem Says.err (Y : Says t w K h mg) {X : Cx} {S : Sem} {k : Nat} (hP : X.prog = P) (hw : X.w = w) (hK : X.K = K) (hm : X.mg = mg) (hS : S.xin = t.xin) (hsub : S.sub = t.sub) (hk : 2 ≤ k) (c : Nat) (ei : EI) (hc : t.tab.errs[c]? = some ei) : EOk X t.tab (t.nm K) S k c ei := by
  subst hK
  obtain ⟨e, he, rfl⟩ := tab_errs hc
  have hmem := List.mem_of_getElem? he
  obtain ⟨c1, c2, _⟩ := Y.ck3
  have hB := c1 e hmem
  have hE := (TxtOk.of Y.ok).errs e hmem
  have ead : (t.nm X.K).ead c = He.ga X.K e.name := by
    show t.ead X.K c = _
    unfold Txt.ead
    rw [he]
  simp only [errB, Bool.and_eq_true] at hB
  obtain ⟨⟨b1, b2⟩, b3⟩ := hB
  obtain ⟨ec, xf⟩ := eccB_ok b1
  have no : ∀ q ∈ e.fl, PySem.W.findIn X.K (.ref (He.ga X.K e.name)) (fnmOf t.fnames q.1) = some none := fun q hq => by
    have := List.all_eq_true.mp b2 q hq
    simpa using this
  refine ⟨?_, ?_, ?_, ?_, ?_, ?_, ?_⟩
  · rw [ead, hm]
    exact He.glo_ok Y.kin Y.ns (fa_all Y.c (by
      unfold Txt.fa
      exact List.mem_append_right _ (List.mem_append_right _ (List.mem_append_right _ (List.mem_append_left _ (List.mem_map.mpr ⟨e, hmem, rfl⟩))))))
  · rw [ead]; exact xf
  · rw [ead]; exact ec
  · intro q hq
    rw [ead]
    exact no q hq
  · intro c' ei' hc'
    obtain ⟨e', he', rfl⟩ := tab_errs hc'
    have h1 := subB_ok c2 (c := c) (c' := c') (List.getElem?_eq_some_iff.mp he).1 (List.getElem?_eq_some_iff.mp he').1
    rw [hsub]
    exact h1
  · rw [hS]
    show (t.errs[c]?).map _ = _
    rw [he]; rfl
  · rw [ead]
    unfold chkErr at hE
    cases hi : e.ini with
    | none =>
      rw [hi] at b3 hE
      simp only [Bool.and_eq_true, decide_eq_true_eq, List.isEmpty_iff] at b3 hE
      obtain ⟨⟨b4, b5⟩, b6⟩ := b3
      exact .inl ⟨hE.1, hE.2, b4, b5, raises_own ec.hs b6⟩
    | some nd =>
      obtain ⟨N, d⟩ := nd
      rw [hi] at b3 hE
      simp only [Bool.and_eq_true, decide_eq_true_eq, Bool.not_eq_true'] at b3 hE
      obtain ⟨⟨b4, b5⟩, b6⟩ := b3
      obtain ⟨⟨⟨⟨⟨⟨⟨e1, e2⟩, e3⟩, e4⟩, e5⟩, e6⟩, e7⟩, e8⟩ := hE
      have oex := oexB_ok b4
      obtain ⟨S1, B1, dz, kz⟩ := sc_ok e4
      obtain ⟨fd, F⟩ := fn_mem Y.c (d := d) (by
        unfold Txt.fn
        exact List.mem_append_right _ (List.mem_flatMap.mpr ⟨e, hmem, by unfold EE.defs; rw [hi]; exact List.mem_singleton.mpr rfl⟩))
      rw [dvs_nil dz, kws_nil kz] at F
      have had : He.fAd X.K d.at_ = He.ma X.K (He.ga X.K e.name) "__init__" := by
        rw [e5]; rfl
      rw [had] at F
      refine .inr ⟨e1, e2, oex, _, fd, N, 1, hk, b5, b6, ?_, F.bindsN fun kV doc pm an cdv ct us hl => B1 kV doc pm cdv ct an us hl⟩
      exact init_ok F S1 oex e3 (by
        intro z
        have z' := congrArg List.length z
        rw [List.length_map] at z'
        have : e.fl = [] := List.length_eq_zero_iff.mp z'
        have e6' : e.ei.fl.isEmpty = false := e6
        have : e.ei.fl = [] := this
        rw [this] at e6'
        cases e6') (by rw [List.length_map]; exact e7) (fun q hq => by
          obtain ⟨q0, h1, h2⟩ := List.mem_map.mp hq
          subst h2
          exact no q0 h1) e8
end
end Z
end

section
/-! ZSg: defs_ok. -/
namespace Z
open PySem PySem.Spec PyProof.Rows L2
section
variable {P : Program} {w : World} {K : PySem.W.Frag} {mg : Str → Option Value} {base h : Heap} {t : Txt} {shr : Nat → Bool} {wf : Nat}
/-- what a def keeps, n calls deep -/
structure DK (t : Txt) (P : Program) (w : World) (K : PySem.W.Frag) (mg : Str → Option Value) (base : Heap) (shr : Nat → Bool) (wf n f : Nat) (q : DD) (fd : FuncData) : Prop where
  fun_ : FunD K q.d.name q.d.qual q.d.params q.d.body q.d.scope [] [] (He.fAd K q.d.at_) fd
  ok : FnG P w K mg base (L2N.CX P w) (n + 30) (He.fAd K q.d.at_) fd (q.N.take q.md.ar) (spOf (t.nm K) K ((t.prog shr wf).cal n f) q.md.ar)
  hot : f ∈ t.hots → L2H.FnH P w K mg base (L2N.CX P w) (n + 30) (He.fAd K q.d.at_) fd (q.N.take q.md.ar) (spOf (t.nm K) K ((t.prog shr wf).cal n f) q.md.ar)
theorem Says.binds (Y : Says t w K h mg) {f : Nat} {q : DD} {fd : FuncData} (hq : t.defs[f]? = some q) (F : FunD K q.d.name q.d.qual q.d.params q.d.body q.d.scope [] [] (He.fAd K q.d.at_) fd) : Binds K fd (q.N.take q.md.ar) [] :=
  F.bindsN fun kV doc pm an cdv ct us hl => ((TxtOk.of Y.ok).defs q (List.mem_of_getElem? hq)).binds hl
theorem Says.mgf (Y : Says t w K h mg) {f : Nat} {q : DD} {x : Str} {m : Nat} (hq : t.tab.defs[f]? = some (some x, m)) (hd : t.defs[f]? = some q) : mg x = some (.ref (He.fAd K q.d.at_)) ∧ q.md.ar = m := by
  have hx' : (t.defs.map fun q => ((if q.d.at_.2.isNone then some q.d.at_.1 else none : Option Str), q.md.ar))[f]? = some (some x, m) := hq
  rw [List.getElem?_map, hd] at hx'
  simp only [Option.map_some, Option.some.injEq, Prod.mk.injEq] at hx'
  obtain ⟨e1, e2⟩ := hx'
  split at e1
  · rename_i hn
    cases e1
    refine ⟨?_, e2⟩
    have := Y.defAt hd
    rw [this]
    unfold He.fAd
    rw [Option.isNone_iff_eq_none.mp hn]
  · cases e1
/-- the calls that a body may make -/
structure CallsK (t : Txt) (P : Program) (w : World) (K : PySem.W.Frag) (mg : Str → Option Value) (base : Heap) (S : Sem) (k : Nat) : Prop where
  g : ∀ f q, t.defs[f]? = some q → ∃ fd, FunD K q.d.name q.d.qual q.d.params q.d.body q.d.scope [] [] (He.fAd K q.d.at_) fd ∧ FnG P w K mg base (L2N.CX P w) k (He.fAd K q.d.at_) fd (q.N.take q.md.ar) (spOf (t.nm K) K (S.cal f) q.md.ar) ∧
    (f ∈ t.hots → L2H.FnH P w K mg base (L2N.CX P w) k (He.fAd K q.d.at_) fd (q.N.take q.md.ar) (spOf (t.nm K) K (S.cal f) q.md.ar))
  g1 : ∃ j, j + 1 ≤ k ∧ ∀ f q, t.defs[f]? = some q → ∃ fd, FunD K q.d.name q.d.qual q.d.params q.d.body q.d.scope [] [] (He.fAd K q.d.at_) fd ∧ FnG P w K mg base (L2N.CX P w) j (He.fAd K q.d.at_) fd (q.N.take q.md.ar) (spOf (t.nm K) K (S.cal1 f) q.md.ar)
theorem Says.cls (Y : Says t w K h mg) {S : Sem} {k : Nat} {X : Cx} (hX : X.prog = P ∧ X.w = w ∧ X.K = K ∧ X.mg = mg ∧ X.base = base) (D : CallsK t P w K mg base S k) (c : Nat) (ci : CI) (hc : t.tab.cls[c]? = some ci) : COk X (t.nm K) S k c ci := by
  obtain ⟨h1, h2, h3, h4, h5⟩ := hX
  subst h1 h2 h3 h4 h5
  have hc' : t.cls[c]? = some ci := hc
  have hmem := List.mem_of_getElem? hc'
  have hB := Y.ck3.2.2 ci hmem
  have cad : (t.nm X.K).cad c = He.ga X.K ci.name := by
    show t.cad X.K c = _
    unfold Txt.cad
    rw [hc']
  simp only [clsB, Bool.and_eq_true] at hB
  obtain ⟨⟨b1, b2⟩, b3⟩ := hB
  have mth : ∀ (m : Str) (f n : Nat), (m, f, n) ∈ ci.meths → ∃ d, t.defs[f]? = some d ∧ d.md.ar = n ∧ PySem.W.findIn X.K (.ref (He.ga X.K ci.name)) m = some (some (.ref (He.fAd X.K d.d.at_))) ∧ PySem.W.isFn X.K (.ref (He.fAd X.K d.d.at_)) = true ∧ PySem.W.keepIn X.K (.ref (He.fAd X.K d.d.at_)) = true ∧
      (m = ("__init__" : Str) → PySem.W.makesIn X.K (He.ga X.K ci.name) = true ∧ PySem.W.keepIn X.K (.ref (He.ga X.K ci.name)) = true) := fun m f n hm => by
    have := List.all_eq_true.mp b3 _ hm
    unfold methB at this
    split at this
    · rename_i d hd
      simp only [Bool.and_eq_true, decide_eq_true_eq, Bool.or_eq_true, Bool.not_eq_true', decide_eq_false_iff_not] at this
      obtain ⟨⟨⟨⟨g1, g2⟩, g3⟩, g4⟩, g5⟩ := this
      exact ⟨d, hd, g1, g2, g3, g4, fun e => g5.resolve_left fun z => z e⟩
    · cases this
  refine ⟨?_, ?_, ?_, ?_, ?_⟩
  · rw [cad]
    exact He.glo_ok Y.kin Y.ns (fa_all Y.c (by
      unfold Txt.fa
      exact List.mem_append_right _ (List.mem_append_right _ (List.mem_append_right _ (List.mem_append_right _ (List.mem_map.mpr ⟨ci, hmem, rfl⟩))))))
  · rw [cad]; exact He.cls_ok b1
  · intro f hf
    rw [cad]
    have := List.all_eq_true.mp b2 f hf
    show PySem.W.findIn X.K _ (fnmOf t.fnames f) = _
    simpa using this
  · intro m f n hm
    rw [cad]
    obtain ⟨d, hd, ha, m1, m2, m3, _⟩ := mth m f n hm
    obtain ⟨fd, F, G, _⟩ := D.g f d hd
    subst ha
    exact ⟨_, fd, _, ⟨m1, m2, m3⟩, G, Y.binds hd F⟩
  · intro f n hm
    rw [cad]
    obtain ⟨d, hd, ha, m1, m2, m3, m4⟩ := mth _ f n hm
    obtain ⟨j, hj, D1⟩ := D.g1
    obtain ⟨fd, F, G⟩ := D1 f d hd
    obtain ⟨m5, m6⟩ := m4 rfl
    subst ha
    exact ⟨_, fd, _, j, hj, ⟨m5, m1, m2, m6⟩, G, Y.binds hd F⟩
theorem sem_cal {n f : Nat} : ((t.prog shr wf).sem n).cal f = (t.prog shr wf).cal n f := rfl
/-- the context of a body, cold or hot -/
theorem Says.cok (Y : Says t w K h mg) {n : Nat} {q : DD} (D : CallsK t P w K mg base ((t.prog shr wf).sem n) (n + 30)) {X : Cx} {E : XK} (hot : Bool) (hX : X.prog = P ∧ X.w = w ∧ X.K = K ∧ X.mg = mg ∧ X.base = base) (hN : X.N = q.N) (hsc : X.env.scope = q.d.scope) (hfn : ∀ x, X.fn x = true) (nd : q.N.Nodup)
    (calm : hot = false → X.calm = true) (hr : hot = false → Room (n + 30) X.A) (hrH : hot = true → L2H.RoomH (n + 30) X.A) (hotc : hot = true → L2H.HotC X) (un : room2 X) (gd : hot = false → X.A.guards = some [])
    (stk : X.stack = X.env :: X.outer) (frm : X.env.frame = some X.env.locals) (tk : L2N.Takes X (fun cls d _ H => E cls d H)) (pa : PassesOwn (model X.prog X.w) X.A X.env X.xe) :
    Cok X { N := q.N, sc := q.d.scope, fn := fun _ => true, T := t.tab, hot := hot } (t.nm K) ((t.prog shr wf).sem n) (fun cls d _ H => E cls d H) (n + 30) := by
  have hX' := hX
  obtain ⟨h1, h2, h3, h4, h5⟩ := hX
  subst h1 h2 h3 h4 h5
  exact {
    N := hN
    sc := hsc
    fn := fun x _ => hfn x
    nd := by rw [hN]; exact nd
    calm := calm
    hr := hr
    hrH := hrH
    hotc := hotc
    un := un
    gd := gd
    gdx := fun h => by cases h
    tab := Y.tabs
    dtab := Y.dtabs
    fr := fun x hx => Y.free hx
    glb := fun i x z h1 h2 => Y.glb i x z h1 h2
    callsH := fun f x m hx hh => by
      have hd : ∃ q2, t.defs[f]? = some q2 := by
        have hx' : (t.defs.map fun q => ((if q.d.at_.2.isNone then some q.d.at_.1 else none : Option Str), q.md.ar))[f]? = some (some x, m) := hx
        rw [List.getElem?_map, Option.map_eq_some_iff] at hx'
        obtain ⟨q2, e, _⟩ := hx'
        exact ⟨q2, e⟩
      obtain ⟨q2, e1⟩ := hd
      obtain ⟨fd2, F2, ok2, hot2⟩ := D.g f q2 e1
      obtain ⟨hm, ha⟩ := Y.mgf hx e1
      subst ha
      exact ⟨_, fd2, _, hot2 (by
        have : t.hots.contains f = true := hh
        simpa using this), hm, F2.kp, Y.binds e1 F2⟩
    calls := fun _ f x m hx => by
      have hd : ∃ q2, t.defs[f]? = some q2 := by
        have hx' : (t.defs.map fun q => ((if q.d.at_.2.isNone then some q.d.at_.1 else none : Option Str), q.md.ar))[f]? = some (some x, m) := hx
        rw [List.getElem?_map, Option.map_eq_some_iff] at hx'
        obtain ⟨q2, e, _⟩ := hx'
        exact ⟨q2, e⟩
      obtain ⟨q2, e1⟩ := hd
      obtain ⟨fd2, F2, ok2, _⟩ := D.g f q2 e1
      obtain ⟨hm, ha⟩ := Y.mgf hx e1
      subst ha
      exact ⟨_, fd2, _, ok2, hm, F2.kp, Y.binds e1 F2⟩
    errs := fun c ei hc => Y.err (P := X.prog) (w := X.w) rfl rfl rfl rfl rfl rfl (by omega) c ei hc
    cls := fun c ci hc => Y.cls hX' D c ci hc
    nf := Nat.le_refl _
    xerr := fun c hc => by
      have hc' : (t.errs[c]?).map (fun e => (e.np, e.fl)) ≠ none := hc
      cases e : t.errs[c]? with
      | none => rw [e] at hc'; exact absurd rfl hc'
      | some e' =>
        refine ⟨e'.ei, ?_⟩
        show (t.errs.map EE.ei)[c]? = _
        rw [List.getElem?_map, e]; rfl
    finj := fnmOf_inj (TxtOk.of Y.ok).fn
    fname := fun f x hx => fnmOf_some hx
    cur := rfl
    cold := fun _ => rfl
    stk := fun _ => stk
    frm := fun _ => frm
    takes := tk
    pass := pa }
theorem cal_succ {p : Prog} {n f : Nat} {vs : List LV} {st : Store} {d : MD} (h : p.defs[f]? = some d) : p.cal (n + 1) f vs st = d.run (p.sem n) vs st := by
  show p.runBy _ _ f vs st = _
  unfold Prog.runBy
  rw [h]; rfl
theorem body_ok {X : Cx} {q : DD} {n f : Nat} {D : TS} {as : List LV} {vs : List V} {F0 H : Hp} {ρ : List Addr} {st : Store} {r : ER} {Q : VK} {E : XK} {M : Nm} (hd : DefOk t.tab q) (hq : t.defs[f]? = some q)
    (t2 : RdS M X.K (fun cls d _ H => E cls d H) D (exSs ((t.prog shr wf).sem n) q.md.body)) (hh : HR' M X.K F0 ρ H st) (ra : RLs X.K F0 ρ as vs) (e : (t.prog shr wf).cal (n + 1) f as st = some r) (p : PostE M X.K (fun cls d _ H => E cls d H) [] F0 ρ H Q r) :
    D { nx := fun _ H' => Q .non H', rt := Q } (start q.N vs) H := by
  have e' : (t.prog shr wf).defs[f]? = some q.md := by
    show (t.defs.map (·.md))[f]? = _
    rw [List.getElem?_map, hq]; rfl
  rw [cal_succ e'] at e
  unfold MD.run at e
  split at e
  · rename_i hla
    have hsl := sl_start (M := M) (N := q.N) ra
    rw [hd.nn, hla] at hsl
    cases q3 : exSs ((t.prog shr wf).sem n) q.md.body (as.map some ++ List.replicate (q.md.nn - q.md.ar) none) st with
    | none => rw [q3] at e; simp [endR] at e
    | some fr =>
      rw [q3] at e
      exact t2 _ _ H _ F0 ρ st fr hh hsl q3 (endR_post e p)
  · cases e
theorem defs_ok (Y : Says t w K h mg) : ∀ (n : Nat), (∀ (f : Nat) (q : DD), t.defs[f]? = some q → ∃ fd, DK t P w K mg base shr wf n f q fd) ∧ CallsK t P w K mg base ((t.prog shr wf).sem n) (n + 30) := by
  have dead : ∀ (c : Nat → List LV → Store → Option ER), (∀ f as st, c f as st = none) → ∀ k f q, t.defs[f]? = some q → ∃ fd, FunD K q.d.name q.d.qual q.d.params q.d.body q.d.scope [] [] (He.fAd K q.d.at_) fd ∧ FnG P w K mg base (L2N.CX P w) k (He.fAd K q.d.at_) fd (q.N.take q.md.ar) (spOf (t.nm K) K (c f) q.md.ar) ∧
      L2H.FnH P w K mg base (L2N.CX P w) k (He.fAd K q.d.at_) fd (q.N.take q.md.ar) (spOf (t.nm K) K (c f) q.md.ar) := fun c hc k f q hq => by
    obtain ⟨fd, F⟩ := Y.one hq
    have D := (TxtOk.of Y.ok).defs q (List.mem_of_getElem? hq)
    refine ⟨fd, F, ⟨fun vs H Q E hs => by rw [D.len]; exact hs.1, fun A outer s H args us vs Q E hr hgd he hb hv hs => ?_⟩, ⟨fun vs H Q E hs => by rw [D.len]; exact hs.1, fun A outer s H args us vs Q E pp hr hot hp he hb hv hs => ?_⟩⟩
    · obtain ⟨_, F0, ρ, st, as, r, _, _, e, _⟩ := hs
      rw [hc] at e; cases e
    · obtain ⟨_, F0, ρ, st, as, r, _, _, e, _⟩ := hs
      rw [hc] at e; cases e
  intro n
  induction n with
  | zero =>
    refine ⟨fun f q hq => ?_, ⟨fun f q hq => ?_, 0, by omega, fun f q hq => ?_⟩⟩
    · obtain ⟨fd, F, G, H⟩ := dead (fun _ _ _ => none) (fun _ _ _ => rfl) (0 + 30) f q hq
      exact ⟨fd, F, G, fun _ => H⟩
    · obtain ⟨fd, F, G, H⟩ := dead (fun _ _ _ => none) (fun _ _ _ => rfl) (0 + 30) f q hq
      exact ⟨fd, F, G, fun _ => H⟩
    · obtain ⟨fd, F, G, H⟩ := dead (fun _ _ _ => none) (fun _ _ _ => rfl) 0 f q hq
      exact ⟨fd, F, G⟩
  | succ n ih =>
    obtain ⟨ih1, D⟩ := ih
    have now : ∀ (f : Nat) (q : DD), t.defs[f]? = some q → ∃ fd, DK t P w K mg base shr wf (n + 1) f q fd := fun f q hq => by
      obtain ⟨fd, F⟩ := Y.one hq
      have hd := (TxtOk.of Y.ok).defs q (List.mem_of_getElem? hq)
      have S := hd.scope
      refine ⟨fd, F, ?_, fun hh => ?_⟩
      · refine fund_okG F S (fun vs H Q E hs => by rw [hd.len]; exact hs.1) fun cdv A outer s H vs Q E hr hgd hs => ?_
        obtain ⟨hl, F0, ρ, st, as, r, hh, ra, e, p⟩ := hs
        have C := Y.cok (q := q) D (X := cxOf (L2N.CX P w) P w K mg base q.N q.d.qual q.d.scope (He.fAd K q.d.at_) cdv A outer s H E) (E := E) false ⟨rfl, rfl, rfl, rfl, rfl⟩ rfl rfl (fun _ => rfl) hd.nd (fun _ => rfl) (fun _ => hr) (fun z => by cases z) (fun z => by cases z)
          (by have := hr.un; show (A.deeper (envOfC q.d.qual q.d.scope s.heap.objs.size (He.fAd K q.d.at_) cdv)).units + 600 < cLine; omega) (fun _ => hgd) rfl rfl (L2N.takes_of rfl rfl rfl rfl) (passes_of rfl)
        obtain ⟨ts, t1, t2⟩ := sndSs q.md.body _ _ _ _ q.d.body C hd.body
        exact ⟨ts, t1, body_ok hd hq t2 hh ra e p⟩
      · refine fund_okH F S (fun vs H Q E hs => by rw [hd.len]; exact hs.1) fun cdv A outer s H vs Q E pp hot hr hs => ?_
        obtain ⟨hl, F0, ρ, st, as, r, hh', ra, e, p⟩ := hs
        have C := Y.cok (q := q) D (X := L2H.cxH (L2N.CX P w) P w K mg base q.N q.d.qual q.d.scope (He.fAd K q.d.at_) cdv A outer s H E pp) (E := E) true ⟨rfl, rfl, rfl, rfl, rfl⟩ rfl rfl (fun _ => rfl) hd.nd (fun z => by cases z) (fun z => by cases z) (fun _ => hr) (fun _ => ⟨pp, hot, List.mem_singleton.mpr rfl⟩)
          (by have := hr.un; show (A.deeper (envOfC q.d.qual q.d.scope s.heap.objs.size (He.fAd K q.d.at_) cdv)).units + 600 < cLine; omega) (fun z => by cases z) rfl rfl (L2N.takes_of rfl rfl rfl rfl) (passes_of rfl)
        obtain ⟨ts, t1, t2⟩ := sndSs q.md.body _ _ _ _ q.d.body C ((TxtOk.of Y.ok).hots f hh q hq)
        exact ⟨ts, t1, body_ok hd hq t2 hh' ra e p⟩
    refine ⟨now, ⟨fun f q hq => ?_, n + 30, by omega, fun f q hq => ?_⟩⟩
    · obtain ⟨fd, k⟩ := now f q hq
      exact ⟨fd, k.fun_, k.ok, k.hot⟩
    · obtain ⟨fd, k⟩ := ih1 f q hq
      exact ⟨fd, k.fun_, k.ok⟩
end
end Z
end

section
/-! ZT: a law's end. -/
namespace Z
open PySem PySem.Spec PyProof.Rows L2
/-- the start of a law: what lies in the heap that its call sees -/
structure Begun (P : Program) (w : World) (K : PySem.W.Frag) (s : Shared) (a : Addr) (ns : List Int) (H : Hp) : Prop where
  frozen : Only H
  script : SqL K H a (ns.map V.int)
  hok : HOk P w H s.heap
  alone : ∀ b, H b ≠ none → b = a
  away : H a ≠ none → K.lookup a = none
theorem begin_ {P : Program} {w : World} {K : PySem.W.Frag} {s : Shared} {a : Addr} {us : List Value} {ns : List Int} (KX : K.In s.heap) (at_ : s.heap.get? a = some { cls := .type "list", data := .seq us.toArray }) (hints : IntsAre us ns) (few : ns.length ≤ sizeLine) :
    ∃ H, Begun P w K s a ns H := by
  have hv : Vals (ns.map V.int) us := vals_ints hints
  have hsz : us.length = ns.length := hints.length
  by_cases hn : K.lookup a = none
  · let H : Hp := fun b => if b = a then some (.frz { cls := .type "list", data := .seq us.toArray } (.lst (ns.map V.int))) else none
    have Ha : H a = some (.frz { cls := .type "list", data := .seq us.toArray } (.lst (ns.map V.int))) := if_pos rfl
    have Hb : ∀ b, b ≠ a → H b = none := fun b q => if_neg q
    refine ⟨H, ⟨fun b => ?_, .inl (.inr ⟨_, Ha⟩), fun b u q => ?_, fun b q => ?_, fun _ => hn⟩⟩
    · rcases Classical.em (b = a) with q | q
      · exact .inr ⟨_, _, by rw [q]; exact Ha⟩
      · exact .inl (Hb b q)
    · rcases Classical.em (b = a) with r | r
      · rw [r, Ha] at q
        cases q
        rw [r]
        exact ⟨at_, by rw [List.length_map]; exact few, us, _, hv, at_⟩
      · rw [Hb b r] at q; cases q
    · rcases Classical.em (b = a) with r | r
      · exact r
      · exact absurd (Hb b r) q
  · obtain ⟨o, ho⟩ := Option.ne_none_iff_exists'.mp hn
    have eo := (KX a o ho).symm.trans at_
    cases eo
    exact ⟨fun _ => none, ⟨fun _ => .inl rfl, .inr ⟨_, us.toArray, _, ho, rfl, rfl, rfl, by rw [List.size_toArray, hsz]; exact few, by simpa using hv⟩, fun _ _ q => (by cases q), fun _ q => absurd rfl q, fun q => absurd rfl q⟩⟩
/-- the call that a law is -/
theorem law_run {P : Program} {w : World} {K : PySem.W.Frag} {mg mb : Str → Option Value} {CX : CXT} {k : Nat} {fa a : Addr} {fd : FuncData} {x : Str} {sp : Sp} {s : Shared} {us : List Value} {ns : List Int}
    (KX : K.In s.heap) (gns : s.heap.Ns mainGlobals mg) (bns : s.heap.Ns builtinsNs mb) (boot : ∀ x : Str, x ≠ "__name__" → mb x = bootBuiltins x) (nolim : s.heap.NoLimit) (nogen : s.gens = #[])
    (at_ : s.heap.get? a = some { cls := .type "list", data := .seq us.toArray }) (hints : IntsAre us ns) (few : ns.length ≤ sizeLine) (room : Room k callerA)
    (F : ∀ base : Heap, K.In base → base.Ns mainGlobals mg → FnG P w K mg base CX k fa fd [x] sp) (bd : ∀ (s : Shared) (u : Value), BindsTo s fd ⟨[u], []⟩ [(x, u)])
    (keeps : ∀ H : Hp, Only H → SqL K H a (ns.map V.int) → sp [.ref a] H (fun v _ => v = .bl true) fun _ _ _ => False) (noex : ∀ H e s', CX [] H s (fun _ _ _ => False) e s' → False) :
    codeAny (model P w) callerA (.call (.ref fa) ⟨[.ref a], []⟩) (fun r s' => r = .ok (.ret (.bool true)) ∧ OldK s.heap s'.heap ∧ s'.os = s.os ∧ AllBare s'.gens) s := by
  obtain ⟨H, B⟩ := begin_ (P := P) (w := w) KX at_ hints few
  have apart : ∀ b o, s.heap.get? b = some o → b ≠ a → (hidT s.heap H).get? b = some o := fun b o e q => hidT_get e (Classical.byContradiction fun z => q (B.alone b z))
  have dictApart : ∀ (b : Addr) (m : Str → Option Value), s.heap.Ns b m → (hidT s.heap H).Ns b m := by
    rintro b m ⟨o, es, ep, e, d, r⟩
    refine ⟨o, es, ep, apart b o e fun q => ?_, d, r⟩
    rw [q, at_] at e
    cases e
    exact Data.noConfusion (show Data.seq us.toArray _ = Data.dict es ep from d)
  have Kin : K.In (hidT s.heap H) := fun b o e => hidT_get (KX b o e) (Classical.byContradiction fun z => by
    have q := B.alone b z
    rw [q] at e z
    rw [B.away z] at e
    cases e)
  have md : Mod K mg (hidT s.heap H) := ⟨Kin, dictApart _ _ gns, ⟨mb, dictApart _ _ bns, boot⟩, nolim.elim fun mc q => ⟨mc, dictApart _ _ q.1, q.2⟩⟩
  have env : Env0 P w K mg (hidT s.heap H) callerA [] s H := ⟨rfl, md, fun _ _ e => of_hidT e, Nat.le_of_eq (hidT_size _ _), trivial, fun b q => absurd (show b ∈ ([] : List Addr) from q) (List.not_mem_nil), B.hok, .of_eq nogen⟩
  have run := (F _ Kin (dictApart _ _ gns)).run callerA [] s H ⟨[.ref a], []⟩ [.ref a] [.ref a] _ _ room rfl env (bd s (.ref a)) (.cons rfl .nil) (keeps H B.frozen B.script)
  refine codeAny_mono run fun r s' back => ?_
  match r, back with
  | .error e, back => exact (noex H e s' back).elim
  | .ok .next, back => exact back.elim
  | .ok .brk, back => exact back.elim
  | .ok .cont, back => exact back.elim
  | .ok (.ret u), ⟨v, H', os, bare, un, hok', rv, isT⟩ =>
    have isT' : v = .bl true := isT
    rw [isT'] at rv
    have eu : u = Value.bool true := rv
    refine ⟨by rw [eu], OldK.of_keep fun b o e => ?_, os, bare⟩
    rcases B.frozen b with q | ⟨ob, xs, q⟩
    · exact un.keep b o e q (fun z => absurd (show b ∈ ([] : List Addr) from z) (List.not_mem_nil)) (by simp)
    · have now := (hok' b _ (un.frzs b ob _ q)).1
      have was := (B.hok b _ q).1
      rw [was] at e
      cases e
      exact now
/-- a law whose defs the look accepts: its value is all that is left -/
theorem walkZ {l : PySem.W.OpenLaw} {n : Nat} {q : Program} {loose : List Str} {XP : (Str → Option Value) → Heap → Prop} {d : DefRec} (t : Txt) (shr : Nat → Bool) (wf depth steps f : Nat) (dd : DD) (x : Str)
    (hn : l.most = some n) (hn2 : n ≤ sizeLine) (hdf : d.params.defaults = []) (ok : t.ok = true) (hf : t.defs[f]? = some dd) (hname : dd.d.at_ = (d.name, none)) (hps : dd.N.take dd.md.ar = [x]) (har : dd.md.ar = 1) (hr : Room (depth + 30) callerA)
    (law : ∀ ns : List Int, ns.length ≤ n → ∃ st, (t.prog shr wf).cal depth f [.pv (.scr ns)] [] = some (.ok (.pv (.bl true)) st)) :
    PySem.W.WalkO q loose XP (hookZ steps t.fa t.fn t.ck t.dts).says l.row.toRowW d [] (fun f vs => PySem.call f vs) := by
  refine Att.attach_call hn hdf fun w s₀ s₁ mg mb fa o pm cd doc a vs ns Gd Y ho hd hcd hmg hobj hints hlen hg => ?_
  obtain ⟨K, KX, c⟩ := Y
  have Y : Says t w K s₁.heap mg := ⟨KX, Gd.T.g, c.z.d, c.z.own, fun q hq => c.dt hq, ok⟩
  have key := fun base => (defs_ok (P := l.prog) (w := w) (base := base) (shr := shr) (wf := wf) Y depth).1 f dd hf
  obtain ⟨fd, D⟩ := key s₁.heap
  have hm := Y.defAt hf
  have efa : fa = He.fAd K dd.d.at_ := by
    rw [hname] at hm ⊢
    have := hmg.symm.trans hm
    cases this
    rfl
  have hfn : ∀ base : Heap, K.In base → base.Ns mainGlobals mg → FnG l.prog w K mg base (L2N.CX l.prog w) (depth + 30) fa fd [x] (spOf (t.nm K) K ((t.prog shr wf).cal depth f) 1) := fun base _ _ => by
    obtain ⟨fd', D'⟩ := key base
    have e : fd' = fd := by
      obtain ⟨_, _, _, _, _, _, _, _, _, _, e1, l1, _⟩ := D.fun_.ex
      obtain ⟨_, _, _, _, _, _, _, _, _, _, e2, l2, _⟩ := D'.fun_.ex
      rw [l1] at l2
      cases l2
      rfl
    subst e
    rw [efa, ← hps, ← har]
    exact D'.ok
  refine law_run KX Gd.T.g Gd.T.b Gd.T.builtins Gd.T.nolimit hg hobj hints (Nat.le_trans hlen hn2) hr hfn (fun s u => ?_) (fun H hO hS => ?_) fun H e s' z => ?_
  · exact FunD.bindsA (ps := [x]) D.fun_ (fun kV doc pm an cdv ct us hl => by
      rw [← hps] at hl ⊢
      exact ((TxtOk.of ok).defs dd (List.mem_of_getElem? hf)).binds hl) s [u] rfl
  · obtain ⟨st, hst⟩ := law ns hlen
    refine ⟨rfl, H, [], [], [.pv (.scr ns)], _, ⟨Sub.refl H, rfl, List.nodup_nil, fun n a c e _ => by simp at e⟩, ?_, hst, ?_⟩
    · simp only [RLs, RL, RP]
      exact ⟨_, [], rfl, ⟨a, rfl, hS⟩, rfl⟩
    · intro F' ρ' H' v g h r
      simpa only [RL, RP] using r
  · obtain ⟨_, _, _, _, _, _, _, _, _, _, _, _, h⟩ := z
    exact h
end Z
end

section
/-! ZU: the laws' own draws. -/
namespace Z
def drawMD : MD := ⟨2, 5, [.iff (.boolop true [.cmp .eq (.idx (.var 0) (.lit (.int 2))) (.lit (.int 0)), .cmp .lt (.idx (.var 0) (.lit (.int 1))) (.bi .len [.idx (.var 0) (.lit (.int 0))])]) [.asg (.nm 3) (.bi .abs [.bi .int [.idx (.idx (.var 0) (.lit (.int 0))) (.idx (.var 0) (.lit (.int 1)))]]), .augI (.var 0) (.lit (.int 1)) .add (.lit (.int 1)), .iff (.cmp .ge (.var 3) (.bin .pow (.lit (.int 10)) (.lit (.int 18)))) [.asgI (.var 0) (.lit (.int 2)) (.var 3)] [.asgI (.var 0) (.lit (.int 3)) (.bin .mod (.bi .int [.bin .add (.bin .add (.bin .mul (.idx (.var 0) (.lit (.int 3))) (.lit (.int 48271))) (.bin .mul (.var 3) (.lit (.int 69621)))) (.idx (.var 0) (.lit (.int 1)))]) (.lit (.int 2147483647)))]] [], .iff (.cmp .gt (.idx (.var 0) (.lit (.int 2))) (.lit (.int 0))) [.asg (.nm 4) (.bin .mod (.bi .int [.idx (.var 0) (.lit (.int 2))]) (.var 1)), .asgI (.var 0) (.lit (.int 2)) (.bin .fdiv (.idx (.var 0) (.lit (.int 2))) (.var 1)), .ret (.var 4)] [], .asgI (.var 0) (.lit (.int 3)) (.bin .mod (.bi .int [.bin .add (.bin .mul (.idx (.var 0) (.lit (.int 3))) (.lit (.int 16807))) (.lit (.int 12345))]) (.lit (.int 2147483647))), .asg (.nm 2) (.bin .mod (.bi .int [.bin .add (.bin .mul (.idx (.var 0) (.lit (.int 3))) (.idx (.var 0) (.lit (.int 3)))) (.idx (.var 0) (.lit (.int 3)))]) (.lit (.int 2147483629))), .ret (.bin .mod (.bin .fdiv (.var 2) (.lit (.int 11))) (.var 1))]⟩
def feedC (ns : List Int) (i b s : Int) : Cell := .lst true [.pv (.lst (ns.map .int)), .pv (.int i), .pv (.int b), .pv (.int s)]
structure FeedOk (i₀ b₀ s₀ : Int) : Prop where
  i : 0 ≤ i₀
  b : 0 ≤ b₀
  s : 0 ≤ s₀
  t : s₀ < 2147483647
section
variable {ns : List Int} {i b s : Int} {r : Nat} {st : Store} {φ : Slots}
theorem gd0 (h : st[r]? = some (feedC ns i b s)) : getI (.ref r) (.pv (.int 0)) st = some (.ok (.pv (.lst (ns.map .int))) st) := by
  simp only [getI, h, feedC]; simp [atI, ixN]
theorem gd1 (h : st[r]? = some (feedC ns i b s)) : getI (.ref r) (.pv (.int 1)) st = some (.ok (.pv (.int i)) st) := by
  simp only [getI, h, feedC]; simp [atI, ixN]
theorem gd2 (h : st[r]? = some (feedC ns i b s)) : getI (.ref r) (.pv (.int 2)) st = some (.ok (.pv (.int b)) st) := by
  simp only [getI, h, feedC]; simp [atI, ixN]
theorem gd3 (h : st[r]? = some (feedC ns i b s)) : getI (.ref r) (.pv (.int 3)) st = some (.ok (.pv (.int s)) st) := by
  simp only [getI, h, feedC]; simp [atI, ixN]
theorem fs1 {v : Int} (h : st[r]? = some (feedC ns i b s)) : setI (.ref r) (.pv (.int 1)) (.pv (.int v)) st = some (st.set r (feedC ns v b s)) := by
  simp [setI, h, feedC, ixN]
theorem fs2 {v : Int} (h : st[r]? = some (feedC ns i b s)) : setI (.ref r) (.pv (.int 2)) (.pv (.int v)) st = some (st.set r (feedC ns i v s)) := by
  simp [setI, h, feedC, ixN]
theorem fs3 {v : Int} (h : st[r]? = some (feedC ns i b s)) : setI (.ref r) (.pv (.int 3)) (.pv (.int v)) st = some (st.set r (feedC ns i b v)) := by
  simp [setI, h, feedC, ixN]
theorem fset {c c' : Cell} (h : st[r]? = some c) : (st.set r c')[r]? = some c' := List.getElem?_set_self (List.getElem?_eq_some_iff.mp h).1
/-- the state behind the first branch -/
def takeI (ns : List Int) (i b s : Int) : Int × Int × Int := if b = 0 ∧ i < ns.length then
    (if 10 ^ 18 ≤ (if (ns[i.toNat]?).getD 0 < 0 then -(ns[i.toNat]?).getD 0 else (ns[i.toNat]?).getD 0) then (i + 1, (if (ns[i.toNat]?).getD 0 < 0 then -(ns[i.toNat]?).getD 0 else (ns[i.toNat]?).getD 0), s)
    else (i + 1, b, (s * 48271 + (if (ns[i.toNat]?).getD 0 < 0 then -(ns[i.toNat]?).getD 0 else (ns[i.toNat]?).getD 0) * 69621 + (i + 1)) % 2147483647))
  else (i, b, s)
/-- what is drawn, the state behind it -/
def drawI (ns : List Int) (i b s m : Int) : Int × Int × Int × Int :=
  if 0 < (takeI ns i b s).2.1 then ((takeI ns i b s).2.1 % m, (takeI ns i b s).1, (takeI ns i b s).2.1 / m, (takeI ns i b s).2.2)
  else ((((takeI ns i b s).2.2 * 16807 + 12345) % 2147483647 * (((takeI ns i b s).2.2 * 16807 + 12345) % 2147483647) + ((takeI ns i b s).2.2 * 16807 + 12345) % 2147483647) % 2147483629 / 11 % m, (takeI ns i b s).1, (takeI ns i b s).2.1, ((takeI ns i b s).2.2 * 16807 + 12345) % 2147483647)
/-- the first branch: a number of the script is taken -/
theorem draw_take {m : Int} (h : st[r]? = some (feedC ns i b s)) (o : FeedOk i b s) : ∃ φ' i' b' s', takeI ns i b s = (i', b', s') ∧ FeedOk i' b' s' ∧ φ'[0]? = some (some (.ref r)) ∧ φ'[1]? = some (some (.pv (.int m))) ∧ φ'.length = 5 ∧ ∀ S : Sem,
    exS S (drawMD.body.getD 0 .pass) [some (.ref r), some (.pv (.int m)), none, none, none] st = some (.nx φ' (st.set r (feedC ns i' b' s'))) := by
  obtain ⟨φ, hφ⟩ : ∃ φ : Slots, φ = [some (.ref r), some (.pv (.int m)), none, none, none] := ⟨_, rfl⟩
  have h0 : φ[0]? = some (some (.ref r)) := by rw [hφ]; rfl
  have same : st.set r (feedC ns i b s) = st := by
    apply List.ext_getElem?
    intro j
    by_cases hj : r = j
    · subst hj; rw [fset h, h]
    · rw [List.getElem?_set_ne hj]
  have test : ∀ S : Sem, evT S (.boolop true [.cmp .eq (.idx (.var 0) (.lit (.int 2))) (.lit (.int 0)), .cmp .lt (.idx (.var 0) (.lit (.int 1))) (.bi .len [.idx (.var 0) (.lit (.int 0))])]) φ st = some (.ok (decide (b = 0) && decide (i < ns.length)) st) := by
    intro S
    simp only [evT, evBT, evE, evEs, h0, gd0 h, gd1 h, gd2 h, R.bind, R.bt, T.bt, R.bs, Rs.bs, Rs.bind, lenB, lenL, peeks, peek, Option.map_some, doBI, okP, cmpT, doCmp, opEq, eqOk, dep, eqP, List.length_map]
    by_cases hb : b = 0
    · subst hb; simp [maxDep, gd0 h, gd1 h, peeks, peek, doBI, okP, doCmp]
    · simp [maxDep, hb]
  have body : ∀ S : Sem, exS S (drawMD.body.getD 0 .pass) φ st = T.bf φ (evT S (.boolop true [.cmp .eq (.idx (.var 0) (.lit (.int 2))) (.lit (.int 0)), .cmp .lt (.idx (.var 0) (.lit (.int 1))) (.bi .len [.idx (.var 0) (.lit (.int 0))])]) φ st) fun d st => if d then exSs S [.asg (.nm 3) (.bi .abs [.bi .int [.idx (.idx (.var 0) (.lit (.int 0))) (.idx (.var 0) (.lit (.int 1)))]]), .augI (.var 0) (.lit (.int 1)) .add (.lit (.int 1)), .iff (.cmp .ge (.var 3) (.bin .pow (.lit (.int 10)) (.lit (.int 18)))) [.asgI (.var 0) (.lit (.int 2)) (.var 3)] [.asgI (.var 0) (.lit (.int 3)) (.bin .mod (.bi .int [.bin .add (.bin .add (.bin .mul (.idx (.var 0) (.lit (.int 3))) (.lit (.int 48271))) (.bin .mul (.var 3) (.lit (.int 69621)))) (.idx (.var 0) (.lit (.int 1)))]) (.lit (.int 2147483647)))]] φ st else exSs S [] φ st := fun _ => rfl
  rw [← hφ]
  by_cases hd : b = 0 ∧ i < ns.length
  · obtain ⟨hb, hi⟩ := hd
    have e : (decide (b = 0) && decide (i < ns.length)) = true := by simp [hb, hi]
    have hin : i.toNat < ns.length := by have := o.i; omega
    obtain ⟨z, hz⟩ : ∃ z, ns[i.toNat]? = some z := ⟨_, List.getElem?_eq_getElem hin⟩
    have hat : atI (ns.map PV.int) i = some (.int z) := by
      unfold atI ixN
      rw [if_pos o.i, if_pos (by rw [List.length_map]; exact hi)]
      simp [hz]
    obtain ⟨c, hc⟩ : ∃ c : Int, c = if z < 0 then -z else z := ⟨_, rfl⟩
    have hc0 : 0 ≤ c := by rw [hc]; split <;> omega
    have e1 : ∀ S : Sem, exS S (.asg (.nm 3) (.bi .abs [.bi .int [.idx (.idx (.var 0) (.lit (.int 0))) (.idx (.var 0) (.lit (.int 1)))]])) φ st = some (.nx (φ.set 3 (some (.pv (.int c)))) st) := by
      intro S
      have gl : getI (.pv (.lst (ns.map .int))) (.pv (.int i)) st = some (.ok (.pv (.int z)) st) := by simp only [getI, doIdx, hat, okP]
      simp only [exS, evE, evEs, h0, gd0 h, gd1 h, gl, R.bind, R.bs, Rs.bs, Rs.bind, R.bf, okP, lenB, lenL, peeks, peek, Option.map_some, doBI, asgG, ← hc]
    have h0' : (φ.set 3 (some (.pv (.int c))))[0]? = some (some (.ref r)) := by rw [hφ]; rfl
    have h3' : (φ.set 3 (some (.pv (.int c))))[3]? = some (some (.pv (.int c))) := by rw [hφ]; rfl
    have e3 : ∀ S : Sem, exS S (.augI (.var 0) (.lit (.int 1)) .add (.lit (.int 1))) (φ.set 3 (some (.pv (.int c)))) st = some (.nx (φ.set 3 (some (.pv (.int c)))) (st.set r (feedC ns (i + 1) b s))) := by
      intro S
      have hg := gd1 h
      simp only [exS, evE, h0', R.bf, hg, augOp, peek, doAug, doBin, okP, fs1 h, Option.map_some]
    have hst1 : (st.set r (feedC ns (i + 1) b s))[r]? = some (feedC ns (i + 1) b s) := fset h
    have e4 : ∀ S : Sem, evT S (.cmp .ge (.var 3) (.bin .pow (.lit (.int 10)) (.lit (.int 18)))) (φ.set 3 (some (.pv (.int c)))) (st.set r (feedC ns (i + 1) b s)) = some (.ok (decide (10 ^ 18 ≤ c)) (st.set r (feedC ns (i + 1) b s))) := by
      intro S
      simp only [evT, evE, h3', R.bt, R.bind, bin, peek, doBin, powOk, okP, cmpT, doCmp, Option.map_some]
      simp
    have seq : ∀ (S : Sem) s1 ss φ st φ1 st1, exS S s1 φ st = some (.nx φ1 st1) → exSs S (s1 :: ss) φ st = exSs S ss φ1 st1 := fun S s1 ss φ st φ1 st1 e => by simp only [exSs, e]
    by_cases hge : (10 : Int) ^ 18 ≤ c
    · refine ⟨φ.set 3 (some (.pv (.int c))), i + 1, c, s, (by unfold takeI; rw [if_pos ⟨hb, hi⟩, hz, Option.getD_some, ← hc, if_pos hge]), ⟨by have := o.i; omega, hc0, o.s, o.t⟩, h0', by rw [hφ]; rfl, by rw [hφ]; rfl, fun S => ?_⟩
      rw [body S, test S, e]
      simp only [T.bf, if_true]
      rw [seq _ _ _ _ _ _ _ (e1 S), seq _ _ _ _ _ _ _ (e3 S)]
      simp only [exSs, exS, e4 S, T.bf, decide_eq_true hge, if_true]
      simp only [evE, h3', h0', R.bf, fs2 hst1, Option.map_some, List.set_set]
    · refine ⟨φ.set 3 (some (.pv (.int c))), i + 1, b, (s * 48271 + c * 69621 + (i + 1)) % 2147483647, (by unfold takeI; rw [if_pos ⟨hb, hi⟩, hz, Option.getD_some, ← hc, if_neg hge]), ⟨by have := o.i; omega, o.b, Int.emod_nonneg _ (by decide), Int.emod_lt_of_pos _ (by decide)⟩, h0', by rw [hφ]; rfl, by rw [hφ]; rfl, fun S => ?_⟩
      rw [body S, test S, e]
      simp only [T.bf, if_true]
      rw [seq _ _ _ _ _ _ _ (e1 S), seq _ _ _ _ _ _ _ (e3 S)]
      have m1 : mulOk s 48271 = true := by simp [mulOk]
      have m2 : mulOk c 69621 = true := by simp [mulOk]
      simp only [exSs, exS, e4 S, T.bf, decide_eq_false hge, Bool.false_eq_true, if_false]
      have ev : evE S (.bin .mod (.bi .int [.bin .add (.bin .add (.bin .mul (.idx (.var 0) (.lit (.int 3))) (.lit (.int 48271))) (.bin .mul (.var 3) (.lit (.int 69621)))) (.idx (.var 0) (.lit (.int 1)))]) (.lit (.int 2147483647))) (φ.set 3 (some (.pv (.int c)))) (st.set r (feedC ns (i + 1) b s)) = some (.ok (.pv (.int ((s * 48271 + c * 69621 + (i + 1)) % 2147483647))) (st.set r (feedC ns (i + 1) b s))) := by
        have g1 := gd1 hst1
        have g3 := gd3 hst1
        simp only [evE, evEs, h0', h3', R.bind, R.bs, Rs.bs, Rs.bind, g1, g3, bin, lenB, lenL, peek, peeks, doBin, m1, m2, if_true, okP, Option.map_some, doBI]
        simp
      rw [ev]
      simp only [R.bf, evE, h0', fs3 hst1, Option.map_some, List.set_set]
  · have e : (decide (b = 0) && decide (i < ns.length)) = false := by
      simp only [Bool.and_eq_false_iff, decide_eq_false_iff_not]
      by_cases hb : b = 0
      · exact .inr fun z => hd ⟨hb, z⟩
      · exact .inl hb
    refine ⟨φ, i, b, s, (by unfold takeI; rw [if_neg hd]), o, h0, by rw [hφ]; rfl, by rw [hφ]; rfl, fun S => ?_⟩
    rw [body S, test S, e]
    simp only [T.bf, Bool.false_eq_true, if_false, exSs, same]
theorem draw_ok {m : Int} (h : st[r]? = some (feedC ns i b s)) (o : FeedOk i b s) (hm : 0 < m) (hm2 : m < 1073741824) : ∃ v i' b' s', drawI ns i b s m = (v, i', b', s') ∧ FeedOk i' b' s' ∧ 0 ≤ v ∧ v < m ∧ ∀ S : Sem,
    drawMD.run S [.ref r, .pv (.int m)] st = some (.ok (.pv (.int v)) (st.set r (feedC ns i' b' s'))) := by
  obtain ⟨φ, i1, b1, s1, et, o1, h0, h1, hl, e1⟩ := draw_take (m := m) h o
  have hst : (st.set r (feedC ns i1 b1 s1))[r]? = some (feedC ns i1 b1 s1) := fset h
  have seq : ∀ (S : Sem) s1 ss φ st φ1 st1, exS S s1 φ st = some (.nx φ1 st1) → exSs S (s1 :: ss) φ st = exSs S ss φ1 st1 := fun S s1 ss φ st φ1 st1 e => by simp only [exSs, e]
  have run : ∀ S : Sem, drawMD.run S [.ref r, .pv (.int m)] st = endR (exSs S drawMD.body [some (.ref r), some (.pv (.int m)), none, none, none] st) := fun _ => rfl
  have body : drawMD.body = drawMD.body.getD 0 .pass :: drawMD.body.tail := rfl
  obtain ⟨st1, hst1⟩ : ∃ st1, st1 = st.set r (feedC ns i1 b1 s1) := ⟨_, rfl⟩
  rw [← hst1] at hst
  have g2 := gd2 hst
  have g3 := gd3 hst
  have t1 : ∀ S : Sem, evT S (.cmp .gt (.idx (.var 0) (.lit (.int 2))) (.lit (.int 0))) φ st1 = some (.ok (decide (0 < b1)) st1) := by
    intro S
    simp only [evT, evE, h0, R.bt, R.bind, g2, cmpT, peek, doCmp, Option.map_some]
  have dv : divOk m = true := by simp [divOk, hm, hm2]
  by_cases hb : 0 < b1
  · refine ⟨b1 % m, i1, b1 / m, s1, (by unfold drawI; rw [et]; simp only; rw [if_pos hb]), ⟨o1.i, Int.ediv_nonneg o1.b (by omega), o1.s, o1.t⟩, Int.emod_nonneg _ (by omega), Int.emod_lt_of_pos _ hm, fun S => ?_⟩
    rw [run S, body, seq _ _ _ _ _ _ _ (e1 S), ← hst1]
    have p0 : (φ.set 4 (some (.pv (.int (b1 % m)))))[0]? = some (some (.ref r)) := by rw [List.getElem?_set_ne (by decide)]; exact h0
    have p1 : (φ.set 4 (some (.pv (.int (b1 % m)))))[1]? = some (some (.pv (.int m))) := by rw [List.getElem?_set_ne (by decide)]; exact h1
    have p4 : (φ.set 4 (some (.pv (.int (b1 % m)))))[4]? = some (some (.pv (.int (b1 % m)))) := List.getElem?_set_self (by omega)
    show endR (exSs S (.iff (.cmp .gt (.idx (.var 0) (.lit (.int 2))) (.lit (.int 0))) [.asg (.nm 4) (.bin .mod (.bi .int [.idx (.var 0) (.lit (.int 2))]) (.var 1)), .asgI (.var 0) (.lit (.int 2)) (.bin .fdiv (.idx (.var 0) (.lit (.int 2))) (.var 1)), .ret (.var 4)] [] :: _) φ st1) = _
    simp only [exSs, exS, t1 S, T.bf, decide_eq_true hb, if_true]
    simp only [evE, evEs, h0, h1, g2, R.bind, R.bs, Rs.bs, Rs.bind, R.bf, lenB, lenL, peeks, peek, Option.map_some, doBI, okP, bin, doBin, hm, if_true, asgG]
    simp only [p0, p1, p4, g2, dv, if_true, okP, fs2 hst, Option.map_some, R.bf, endR]
    rw [hst1, List.set_set]
  · obtain ⟨s2, hs2⟩ : ∃ s2, s2 = (s1 * 16807 + 12345) % 2147483647 := ⟨_, rfl⟩
    have o2 : FeedOk i1 b1 s2 := ⟨o1.i, o1.b, by rw [hs2]; exact Int.emod_nonneg _ (by decide), by rw [hs2]; exact Int.emod_lt_of_pos _ (by decide)⟩
    refine ⟨(s2 * s2 + s2) % 2147483629 / 11 % m, i1, b1, s2, (by unfold drawI; rw [et]; simp only; rw [if_neg hb, hs2]), o2, Int.emod_nonneg _ (by omega), Int.emod_lt_of_pos _ hm, fun S => ?_⟩
    rw [run S, body, seq _ _ _ _ _ _ _ (e1 S), ← hst1]
    have m1 : mulOk s1 16807 = true := by simp [mulOk]
    have m2 : mulOk s2 s2 = true := by
      have h1 := o2.s
      have h2 := o2.t
      have a1 : decide (-(2 ^ 64 : Int) < s2) = true := decide_eq_true (by omega)
      have a2 : decide (s2 < (2 ^ 64 : Int)) = true := decide_eq_true (by omega)
      unfold mulOk
      rw [a1, a2]; rfl
    have hst2 : (st1.set r (feedC ns i1 b1 s2))[r]? = some (feedC ns i1 b1 s2) := fset hst
    have g3' := gd3 hst2
    have e2 : exS S (.asgI (.var 0) (.lit (.int 3)) (.bin .mod (.bi .int [.bin .add (.bin .mul (.idx (.var 0) (.lit (.int 3))) (.lit (.int 16807))) (.lit (.int 12345))]) (.lit (.int 2147483647)))) φ st1 = some (.nx φ (st1.set r (feedC ns i1 b1 s2))) := by
      have ev : evE S (.bin .mod (.bi .int [.bin .add (.bin .mul (.idx (.var 0) (.lit (.int 3))) (.lit (.int 16807))) (.lit (.int 12345))]) (.lit (.int 2147483647))) φ st1 = some (.ok (.pv (.int s2)) st1) := by
        simp only [evE, evEs, h0, g3, R.bind, R.bs, Rs.bs, Rs.bind, bin, lenB, lenL, peek, peeks, doBin, m1, if_true, okP, Option.map_some, doBI]
        rw [hs2]; simp
      simp only [exS, ev, R.bf]
      simp only [evE, h0, R.bf, fs3 hst, Option.map_some]
    have e3 : exS S (.asg (.nm 2) (.bin .mod (.bi .int [.bin .add (.bin .mul (.idx (.var 0) (.lit (.int 3))) (.idx (.var 0) (.lit (.int 3)))) (.idx (.var 0) (.lit (.int 3)))]) (.lit (.int 2147483629)))) φ (st1.set r (feedC ns i1 b1 s2)) = some (.nx (φ.set 2 (some (.pv (.int ((s2 * s2 + s2) % 2147483629))))) (st1.set r (feedC ns i1 b1 s2))) := by
      simp only [exS, evE, evEs, h0, g3', R.bind, R.bs, Rs.bs, Rs.bind, R.bf, bin, lenB, lenL, peek, peeks, doBin, m2, if_true, okP, Option.map_some, doBI, asgG]
      simp
    have p1 : (φ.set 2 (some (.pv (.int ((s2 * s2 + s2) % 2147483629)))))[1]? = some (some (.pv (.int m))) := by rw [List.getElem?_set_ne (by decide)]; exact h1
    have p2 : (φ.set 2 (some (.pv (.int ((s2 * s2 + s2) % 2147483629)))))[2]? = some (some (.pv (.int ((s2 * s2 + s2) % 2147483629)))) := List.getElem?_set_self (by omega)
    have dv11 : divOk 11 = true := by decide
    have e0 : exS S (.iff (.cmp .gt (.idx (.var 0) (.lit (.int 2))) (.lit (.int 0))) [.asg (.nm 4) (.bin .mod (.bi .int [.idx (.var 0) (.lit (.int 2))]) (.var 1)), .asgI (.var 0) (.lit (.int 2)) (.bin .fdiv (.idx (.var 0) (.lit (.int 2))) (.var 1)), .ret (.var 4)] []) φ st1 = some (.nx φ st1) := by
      simp only [exS, t1 S, T.bf, decide_eq_false hb, Bool.false_eq_true, if_false, exSs]
    show endR (exSs S (.iff _ _ _ :: .asgI _ _ _ :: .asg _ _ :: [.ret (.bin .mod (.bin .fdiv (.var 2) (.lit (.int 11))) (.var 1))]) φ st1) = _
    rw [seq _ _ _ _ _ _ _ e0, seq _ _ _ _ _ _ _ e2, seq _ _ _ _ _ _ _ e3]
    simp only [exSs, exS, evE, p1, p2, R.bind, R.bf, bin, peek, doBin, dv11, hm, if_true, okP, endR]
    rw [hst1, List.set_set]
/-! ### the feed as a value -/
structure Fd where
  ns : List Int
  i : Int
  b : Int
  s : Int
  ok : FeedOk i b s
def Fd.cell (F : Fd) : Cell := feedC F.ns F.i F.b F.s
theorem Fd.at0 (F : Fd) : ([F.cell] : Store)[0]? = some (feedC F.ns F.i F.b F.s) := rfl
/-- what is drawn, the feed behind it -/
def Fd.draw (F : Fd) (m : Int) : Int × Fd := if h : 0 < m ∧ m < 1073741824 then
    ((drawI F.ns F.i F.b F.s m).1, ⟨F.ns, (drawI F.ns F.i F.b F.s m).2.1, (drawI F.ns F.i F.b F.s m).2.2.1, (drawI F.ns F.i F.b F.s m).2.2.2, by
      obtain ⟨v, i, b, s, e, o, _⟩ := draw_ok F.at0 F.ok h.1 h.2
      rw [e]; exact o⟩)
  else (0, F)
theorem Fd.draw_spec (F : Fd) {m : Int} (h1 : 0 < m) (h2 : m < 1073741824) : 0 ≤ (F.draw m).1 ∧ (F.draw m).1 < m ∧ ∀ (S : Sem) (st : Store) (r : Nat), st[r]? = some F.cell → drawMD.run S [.ref r, .pv (.int m)] st = some (.ok (.pv (.int (F.draw m).1)) (st.set r (F.draw m).2.cell)) := by
  unfold Fd.draw
  rw [dif_pos ⟨h1, h2⟩]
  obtain ⟨v, i, b, s, e, o, k1, k2, _⟩ := draw_ok F.at0 F.ok h1 h2
  refine ⟨by show 0 ≤ (drawI F.ns F.i F.b F.s m).1; rw [e]; exact k1, by show (drawI F.ns F.i F.b F.s m).1 < m; rw [e]; exact k2, fun S st r hr => ?_⟩
  obtain ⟨v', i', b', s', e', o', k1', k2', run⟩ := draw_ok (m := m) hr F.ok h1 h2
  rw [run S]
  simp only [Fd.cell]
  rw [e']
end
end Z
end

section
/-! ZV: running defs in plain Lean. -/
namespace Z
/-! ### the semantics as rewriting; what stands behind is looked at last -/
/-- a type that names what it does not use: so simp leaves what stands behind alone -/
abbrev At {α : Type} (_ : α) (β : Type) : Type := β
def R.bK (k : LV → Store → Option ER) (a : At k (Option ER)) : Option ER := R.bind a k
def R.bsK (k : LV → Store → Option ERs) (a : At k (Option ER)) : Option ERs := R.bs a k
def R.btK (k : LV → Store → Option ET) (a : At k (Option ER)) : Option ET := R.bt a k
def R.bfK (φ : Slots) (k : LV → Store → Option FR) (a : At k (Option ER)) : Option FR := R.bf φ a k
def Rs.bK (k : List LV → Store → Option ER) (a : At k (Option ERs)) : Option ER := Rs.bind a k
def Rs.bsK (k : List LV → Store → Option ERs) (a : At k (Option ERs)) : Option ERs := Rs.bs a k
def Rs.bfK (φ : Slots) (k : List LV → Store → Option FR) (a : At k (Option ERs)) : Option FR := Rs.bf φ a k
def T.bK (k : Bool → Store → Option ER) (a : At k (Option ET)) : Option ER := T.bind a k
def T.btK (k : Bool → Store → Option ET) (a : At k (Option ET)) : Option ET := T.bt a k
def T.bfK (φ : Slots) (k : Bool → Store → Option FR) (a : At k (Option ET)) : Option FR := T.bf φ a k
def seqO (r : Option FR) (k : Slots → Store → Option FR) : Option FR := match r with
  | some (.nx φ st) => k φ st
  | r => r
def seqS (k : Slots → Store → Option FR) (a : At k (Option FR)) : Option FR := seqO a k
@[simp] theorem seqS_nx (φ : Slots) (st : Store) (k) : seqS (a := some (.nx φ st)) k = k φ st := Eq.trans rfl rfl
@[simp] theorem seqS_rt (v : LV) (st : Store) (k) : seqS (a := some (.rt v st)) k = some (.rt v st) := Eq.trans rfl rfl
@[simp] theorem seqS_ex (e : Ex) (φ : Slots) (st : Store) (k) : seqS (a := some (.ex e φ st)) k = some (.ex e φ st) := Eq.trans rfl rfl
@[simp] theorem seqS_bk (φ : Slots) (st : Store) (k) : seqS (a := some (.bk φ st)) k = some (.bk φ st) := Eq.trans rfl rfl
@[simp] theorem seqS_ct (φ : Slots) (st : Store) (k) : seqS (a := some (.ct φ st)) k = some (.ct φ st) := Eq.trans rfl rfl
@[simp] theorem seqS_ite (c : Prop) [Decidable c] (a b) (k) : seqS (a := if c then a else b) k = if c then seqS k a else seqS k b := by split <;> rfl
@[simp] theorem exSs_nil (S : Sem) (φ : Slots) (st : Store) : exSs S [] φ st = some (.nx φ st) := Eq.trans rfl rfl
@[simp] theorem exSs_cons (S : Sem) (s : MS) (ss : List MS) (φ : Slots) (st : Store) : exSs S (s :: ss) φ st = seqS (a := exS S s φ st) (exSs S ss) := Eq.trans rfl rfl
section
variable {φ : Slots} {st : Store} {v : LV} {vs : List LV} {e : Ex}
@[simp] theorem R.bind_ok (f) : R.bK (a := some (.ok v st)) f = f v st := Eq.trans rfl rfl
@[simp] theorem R.bind_ex (f) : R.bK (a := some (.ex e st)) f = some (.ex e st) := Eq.trans rfl rfl
@[simp] theorem R.bs_ok (f) : R.bsK (a := some (.ok v st)) f = f v st := Eq.trans rfl rfl
@[simp] theorem R.bs_ex (f) : R.bsK (a := some (.ex e st)) f = some (.ex e st) := Eq.trans rfl rfl
@[simp] theorem R.bt_ok (f) : R.btK (a := some (.ok v st)) f = f v st := Eq.trans rfl rfl
@[simp] theorem R.bt_ex (f) : R.btK (a := some (.ex e st)) f = some (.ex e st) := Eq.trans rfl rfl
@[simp] theorem R.bf_ok (f) : R.bfK φ (a := some (.ok v st)) f = f v st := Eq.trans rfl rfl
@[simp] theorem R.bf_ex (f) : R.bfK φ (a := some (.ex e st)) f = some (.ex e φ st) := Eq.trans rfl rfl
@[simp] theorem Rs.bind_ok (f) : Rs.bK (a := some (.ok vs st)) f = f vs st := Eq.trans rfl rfl
@[simp] theorem Rs.bind_ex (f) : Rs.bK (a := some (.ex e st)) f = some (.ex e st) := Eq.trans rfl rfl
@[simp] theorem Rs.bs_ok (f) : Rs.bsK (a := some (.ok vs st)) f = f vs st := Eq.trans rfl rfl
@[simp] theorem Rs.bs_ex (f) : Rs.bsK (a := some (.ex e st)) f = some (.ex e st) := Eq.trans rfl rfl
@[simp] theorem Rs.bf_ok (f) : Rs.bfK φ (a := some (.ok vs st)) f = f vs st := Eq.trans rfl rfl
@[simp] theorem Rs.bf_ex (f) : Rs.bfK φ (a := some (.ex e st)) f = some (.ex e φ st) := Eq.trans rfl rfl
@[simp] theorem T.bind_ok (b : Bool) (f) : T.bK (a := some (.ok b st)) f = f b st := Eq.trans rfl rfl
@[simp] theorem T.bind_ex (f) : T.bK (a := some (.ex e st)) f = some (.ex e st) := Eq.trans rfl rfl
@[simp] theorem T.bt_ok (b : Bool) (f) : T.btK (a := some (.ok b st)) f = f b st := Eq.trans rfl rfl
@[simp] theorem T.bt_ex (f) : T.btK (a := some (.ex e st)) f = some (.ex e st) := Eq.trans rfl rfl
@[simp] theorem T.bf_ok (b : Bool) (f) : T.bfK φ (a := some (.ok b st)) f = f b st := Eq.trans rfl rfl
@[simp] theorem T.bf_ex (f) : T.bfK φ (a := some (.ex e st)) f = some (.ex e φ st) := Eq.trans rfl rfl
/-- a list of arguments, evaluated -/
@[simp] theorem okP_some (p : PV) : okP st (some p) = some (.ok (.pv p) st) := Eq.trans rfl rfl
@[simp] theorem peek_pv (p : PV) : peek st (.pv p) = some p := Eq.trans rfl rfl
@[simp] theorem peeks_nil : peeks st [] = some [] := Eq.trans rfl rfl
@[simp] theorem peeks_pv (p : PV) (xs : List LV) : peeks st (.pv p :: xs) = (peeks st xs).map (p :: ·) := Eq.trans rfl rfl
@[simp] theorem truL_pv (p : PV) : truL (.pv p) st = tru p := Eq.trans rfl rfl
@[simp] theorem frz_pv (p : PV) : frz (.pv p) st = some (p, st) := Eq.trans rfl rfl
@[simp] theorem getI_pv (p i : PV) : getI (.pv p) (.pv i) st = okP st (doIdx p i) := Eq.trans rfl rfl
@[simp] theorem bin_pv (op : BO) (p q : PV) : bin op (.pv p) (.pv q) st = okP st (doBin op p q) := Eq.trans rfl rfl
@[simp] theorem cmp_pv (op : CO) (p q : PV) : cmp op (.pv p) (.pv q) st = (doCmp op p q).map fun c => .ok (.pv (.bl c)) st := Eq.trans rfl rfl
@[simp] theorem cmpT_pv (op : CO) (p q : PV) : cmpT op (.pv p) (.pv q) st = (doCmp op p q).map fun c => .ok c st := Eq.trans rfl rfl
@[simp] theorem augOp_pv (op : BO) (p q : PV) : augOp op (.pv p) (.pv q) st = okP st (doAug op p q) := Eq.trans rfl rfl
@[simp] theorem mkTup_nil : mkTup [] = .pv (.tup []) := Eq.trans rfl rfl
@[simp] theorem unpv_nil : unpv [] = some [] := Eq.trans rfl rfl
@[simp] theorem unpv_pv (p : PV) (xs : List LV) : unpv (.pv p :: xs) = (unpv xs).map (p :: ·) := Eq.trans rfl rfl
theorem mkTup_pv (ps : List PV) : mkTup (ps.map .pv) = .pv (.tup ps) := by unfold mkTup; rw [unpv_map]
@[simp] theorem mkTup1 (a : PV) : mkTup [.pv a] = .pv (.tup [a]) := Eq.trans rfl rfl
@[simp] theorem mkTup2 (a b : PV) : mkTup [.pv a, .pv b] = .pv (.tup [a, b]) := Eq.trans rfl rfl
@[simp] theorem mkTup3 (a b c : PV) : mkTup [.pv a, .pv b, .pv c] = .pv (.tup [a, b, c]) := Eq.trans rfl rfl
@[simp] theorem mkTup4 (a b c d : PV) : mkTup [.pv a, .pv b, .pv c, .pv d] = .pv (.tup [a, b, c, d]) := Eq.trans rfl rfl
@[simp] theorem mkTup5 (a b c d e : PV) : mkTup [.pv a, .pv b, .pv c, .pv d, .pv e] = .pv (.tup [a, b, c, d, e]) := Eq.trans rfl rfl
@[simp] theorem line1 : 1 ≤ line := by decide
@[simp] theorem line2 : 2 ≤ line := by decide
@[simp] theorem line3 : 3 ≤ line := by decide
@[simp] theorem line4 : 4 ≤ line := by decide
@[simp] theorem line5 : 5 ≤ line := by decide
@[simp] theorem line6 : 6 ≤ line := by decide
@[simp] theorem line7 : 7 ≤ line := by decide
@[simp] theorem line8 : 8 ≤ line := by decide
@[simp] theorem mkLst_nil : mkLst false [] st = some (.ok (.pv (.lst [])) st) := Eq.trans rfl rfl
theorem mkLst_pv {ps : List PV} (h : ps.length ≤ line) : mkLst false (ps.map .pv) st = some (.ok (.pv (.lst ps)) st) := by
  unfold mkLst
  rw [if_pos (by rw [List.length_map]; exact h), unpv_map]; rfl
@[simp] theorem mkLst1 (a : PV) : mkLst false [.pv a] st = some (.ok (.pv (.lst [a])) st) := Eq.trans rfl rfl
@[simp] theorem mkLst2 (a b : PV) : mkLst false [.pv a, .pv b] st = some (.ok (.pv (.lst [a, b])) st) := Eq.trans rfl rfl
@[simp] theorem mkLst3 (a b c : PV) : mkLst false [.pv a, .pv b, .pv c] st = some (.ok (.pv (.lst [a, b, c])) st) := Eq.trans rfl rfl
@[simp] theorem mkLst4 (a b c d : PV) : mkLst false [.pv a, .pv b, .pv c, .pv d] st = some (.ok (.pv (.lst [a, b, c, d])) st) := Eq.trans rfl rfl
@[simp] theorem mkLst5 (a b c d e : PV) : mkLst false [.pv a, .pv b, .pv c, .pv d, .pv e] st = some (.ok (.pv (.lst [a, b, c, d, e])) st) := Eq.trans rfl rfl
@[simp] theorem mkLst6 (a b c d e f : PV) : mkLst false [.pv a, .pv b, .pv c, .pv d, .pv e, .pv f] st = some (.ok (.pv (.lst [a, b, c, d, e, f])) st) := Eq.trans rfl rfl
@[simp] theorem endR_nx : endR (some (.nx φ st)) = some (.ok (.pv .non) st) := Eq.trans rfl rfl
@[simp] theorem endR_rt : endR (some (.rt v st)) = some (.ok v st) := Eq.trans rfl rfl
@[simp] theorem endR_ex : endR (some (.ex e φ st)) = some (.ex e st) := Eq.trans rfl rfl
@[simp] theorem endR_ite (c : Prop) [Decidable c] (a b) : endR (if c then a else b) = if c then endR a else endR b := by split <;> rfl
@[simp] theorem asgG_nm (i : Nat) : asgG (.nm i) v φ = some (φ.set i (some v)) := by simp only [asgG]
@[simp] theorem asgG_tpv (gs : List MG) (xs : List PV) : asgG (.tp gs) (.pv (.tup xs)) φ = asgGs gs (xs.map .pv) φ := by simp only [asgG]
@[simp] theorem asgG_tup (gs : List MG) (xs : List LV) : asgG (.tp gs) (.tup xs) φ = asgGs gs xs φ := by simp only [asgG]
@[simp] theorem asgG_lpv (gs : List MG) (xs : List PV) : asgG (.tp gs) (.pv (.lst xs)) φ = asgGs gs (xs.map .pv) φ := by simp only [asgG]
@[simp] theorem asgGs_nil : asgGs [] [] φ = some φ := by simp only [asgGs]
@[simp] theorem asgGs_cons (g : MG) (gs : List MG) (x : LV) (xs : List LV) : asgGs (g :: gs) (x :: xs) φ = (asgG g x φ).bind fun φ => asgGs gs xs φ := by
  rw [asgGs]
  cases asgG g x φ <;> rfl
end
/-- a turn of a loop, of a comprehension -/
def forStep (S : Sem) (g : MG) (a : List MS) : PV → Slots → Store → Option FR := fun x φ st => match asgG g (.pv x) φ with
  | some φ => exSs S a φ st
  | none => none
def lcStep (S : Sem) (elt : ME) (tg : MG) (ifs : List MT) (own : List Nat) (φ : Slots) : PV → Store → Option ERs := fun x st => match asgG tg (.pv x) (wipeL φ own) with
  | some φ1 => evIf S ifs φ1 st fun st => R.bsK (a := evE S elt φ1 st) fun y st => some (.ok [y] st)
  | none => none
/-- a loop, a comprehension over what is given -/
def forV (ik : IK) (vs : List LV) (step : PV → Slots → Store → Option FR) (φ : Slots) (st : Store) : Option FR := match unpv vs with
  | some ps => match items ik ps with
    | some xs => forLoop step xs φ st
    | none => none
  | none => none
def lcV (live : Bool) (ik : IK) (vs : List LV) (step : PV → Store → Option ERs) (st : Store) : Option ER := match unpv vs with
  | some ps => match items ik ps with
    | some xs => match lcLoop step xs st with
      | some (vs, st) => mkLst live vs st
      | none => none
    | none => none
  | none => none
theorem forV_of {ik : IK} {ps xs : List PV} (h : items ik ps = some xs) (step) (φ : Slots) (st : Store) : forV ik (ps.map .pv) step φ st = forLoop step xs φ st := by
  unfold forV
  rw [unpv_map]
  simp only [h]
theorem lcV_of {live : Bool} {ik : IK} {ps xs : List PV} {step} {st st1 : Store} {vs : List LV} (h : items ik ps = some xs) (hl : lcLoop step xs st = some (vs, st1)) : lcV live ik (ps.map .pv) step st = mkLst live vs st1 := by
  unfold lcV
  rw [unpv_map]
  simp only [h, hl]
theorem lcLoop_pure {step : PV → Store → Option ERs} {f : PV → List LV} {st : Store} : ∀ {xs : List PV}, (∀ x ∈ xs, step x st = some (.ok (f x) st)) → lcLoop step xs st = some (xs.flatMap f, st)
  | [], _ => rfl
  | x :: xs, h => by
    unfold lcLoop
    rw [h x (by simp)]
    simp only [noX]
    rw [lcLoop_pure fun y hy => h y (by simp [hy])]
    simp
section
variable (S : Sem) (φ : Slots) (st : Store)
@[simp] theorem evE_var (i : Nat) : evE S (.var i) φ st = match φ[i]? with
    | some (some (.exn _)) => none
    | some (some v) => some (.ok v st)
    | _ => none := Eq.trans rfl rfl
@[simp] theorem evE_lit (p : PV) : evE S (.lit p) φ st = some (.ok (.pv p) st) := Eq.trans rfl rfl
@[simp] theorem evE_glb (g : Nat) : evE S (.glb g) φ st = okP st (S.glb g) := Eq.trans rfl rfl
@[simp] theorem evE_tup (es) : evE S (.tup es) φ st = Rs.bK (a := evEs S es φ st) fun vs st => if vs.length ≤ line then some (.ok (mkTup vs) st) else none := Eq.trans rfl rfl
@[simp] theorem evE_lst (live) (es) : evE S (.lst live es) φ st = Rs.bK (a := evEs S es φ st) fun vs st => mkLst live vs st := Eq.trans rfl rfl
@[simp] theorem evE_dnew (t) : evE S (.dnew t) φ st = some (.ok (.ref st.length) (st ++ [if t then .dt true [] else .dk true []])) := Eq.trans rfl rfl
@[simp] theorem evE_bin (op a b) : evE S (.bin op a b) φ st = R.bK (a := evE S a φ st) fun x st => R.bK (a := evE S b φ st) fun y st => Z.bin op x y st := Eq.trans rfl rfl
@[simp] theorem evE_cmp (op a b) : evE S (.cmp op a b) φ st = R.bK (a := evE S a φ st) fun x st => R.bK (a := evE S b φ st) fun y st => Z.cmp op x y st := Eq.trans rfl rfl
@[simp] theorem evE_boolop (c es) : evE S (.boolop c es) φ st = evB S c es φ st := Eq.trans rfl rfl
@[simp] theorem evE_not (a) : evE S (.not a) φ st = R.bK (a := evE S a φ st) fun x st => match truL x st with
    | some b => some (.ok (.pv (.bl (!b))) st)
    | none => none := Eq.trans rfl rfl
@[simp] theorem evE_neg (a) : evE S (.neg a) φ st = R.bK (a := evE S a φ st) fun x st => match x with
    | .pv (.int i) => some (.ok (.pv (.int (-i))) st)
    | _ => none := Eq.trans rfl rfl
@[simp] theorem evE_ite (c a b) : evE S (.ite c a b) φ st = T.bK (a := evT S c φ st) fun d st => if d then evE S a φ st else evE S b φ st := Eq.trans rfl rfl
@[simp] theorem evE_idx (a i) : evE S (.idx a i) φ st = R.bK (a := evE S a φ st) fun x st => R.bK (a := evE S i φ st) fun y st => getI x y st := Eq.trans rfl rfl
@[simp] theorem evE_slc (a l lo h hi) : evE S (.slc a l lo h hi) φ st = R.bK (a := evE S a φ st) fun x st => R.bK (a := if l then evE S lo φ st else some (.ok (.pv .non) st)) fun lv st => match optL l lv with
      | some lo => R.bK (a := if h then evE S hi φ st else some (.ok (.pv .non) st)) fun hv st => match optL h hv, peek st x with
        | some hi, some x => okP st (doSlc x lo hi)
        | _, _ => none
      | none => none := Eq.trans rfl rfl
@[simp] theorem evE_tabI (t i) : evE S (.tabI t i) φ st = R.bK (a := evE S i φ st) fun y st => match S.tab t, y with
    | some ps, .pv (.int i) => okP st ((atI ps i).map .str)
    | _, _ => none := Eq.trans rfl rfl
@[simp] theorem evE_tabL (t) : evE S (.tabL t) φ st = (S.tab t).map fun ps => .ok (.pv (.int (ps.length : Nat))) st := Eq.trans rfl rfl
@[simp] theorem evE_tabX (t es) : evE S (.tabX t es) φ st = Rs.bK (a := evEs S es φ st) fun vs st => match S.tab t, vs with
    | some ps, [.pv (.str z)] => (ps.findIdx? fun x => decide (x = z)).map fun j => .ok (.pv (.int (j : Nat))) st
    | _, _ => none := Eq.trans rfl rfl
@[simp] theorem evE_rev (a) : evE S (.rev a) φ st = R.bK (a := evE S a φ st) fun x st => match x with
    | .pv (.str s) => if s.length ≤ 2 then some (.ok (.pv (.str s.reverse)) st) else none
    | .pv (.tup xs) => if xs.length ≤ line then some (.ok (.pv (.tup xs.reverse)) st) else none
    | .pv (.lst xs) => some (.ok (.pv (.lst xs.reverse)) st)
    | _ => none := Eq.trans rfl rfl
@[simp] theorem evE_isn (neg a) : evE S (.isn neg a) φ st = R.bK (a := evE S a φ st) fun x st => match x with
    | .pv .non => some (.ok (.pv (.bl (!neg))) st)
    | _ => some (.ok (.pv (.bl neg)) st) := Eq.trans rfl rfl
@[simp] theorem evE_isi (t a) : evE S (.isi t a) φ st = R.bK (a := evE S a φ st) fun x st => match peek st x with
    | some x => (isTy t x).map fun b => .ok (.pv (.bl b)) st
    | none => none := Eq.trans rfl rfl
@[simp] theorem evE_bi (b es) : evE S (.bi b es) φ st = Rs.bK (a := evEs S es φ st) fun vs st => match lenB b vs st with
    | some n => some (.ok (.pv (.int (n : Int))) st)
    | none => match peeks st vs with
      | some ps => okP st (doBI b ps)
      | none => none := Eq.trans rfl rfl
@[simp] theorem lenB_len (v : LV) : lenB .len [v] st = lenL v st := Eq.trans rfl rfl
@[simp] theorem lenL_pv (p : PV) : lenL (.pv p) st = none := Eq.trans rfl rfl
@[simp] theorem lenB_abs (vs) : lenB .abs vs st = none := Eq.trans rfl rfl
@[simp] theorem lenB_int (vs) : lenB .int vs st = none := Eq.trans rfl rfl
@[simp] theorem lenB_list (vs) : lenB .list vs st = none := Eq.trans rfl rfl
@[simp] theorem lenB_sum (vs) : lenB .sum vs st = none := Eq.trans rfl rfl
@[simp] theorem lenB_all (vs) : lenB .all vs st = none := Eq.trans rfl rfl
@[simp] theorem lenB_any (vs) : lenB .any vs st = none := Eq.trans rfl rfl
@[simp] theorem lenB_repr (vs) : lenB .repr vs st = none := Eq.trans rfl rfl
@[simp] theorem lenB_str (vs) : lenB .str vs st = none := Eq.trans rfl rfl
@[simp] theorem lenB_max (vs) : lenB .max vs st = none := Eq.trans rfl rfl
@[simp] theorem lenB_min (vs) : lenB .min vs st = none := Eq.trans rfl rfl
@[simp] theorem lenB_sorted (vs) : lenB .sorted vs st = none := Eq.trans rfl rfl
@[simp] theorem lenB_tuple (vs) : lenB .tuple vs st = none := Eq.trans rfl rfl
@[simp] theorem evE_bm (m r es) : evE S (.bm m r es) φ st = R.bK (a := evE S r φ st) fun x st => if bmOk m x st then Rs.bK (a := evEs S es φ st) fun vs st => doBM m x vs st else none := Eq.trans rfl rfl
@[simp] theorem evE_call (f es) : evE S (.call f es) φ st = Rs.bK (a := evEs S es φ st) fun vs st => S.call f vs st := Eq.trans rfl rfl
@[simp] theorem evE_lc (live elt tg ik src ifs own) : evE S (.lc live elt tg ik src ifs own) φ st = Rs.bK (a := evEs S src φ st) fun vs st => lcV live ik vs (lcStep S elt tg ifs own φ) st := Eq.trans rfl rfl
@[simp] theorem evE_frz (a) : evE S (.frz a) φ st = R.bK (a := evE S a φ st) fun x st => (frz x st).map fun p => .ok (.pv p.1) p.2 := Eq.trans rfl rfl
@[simp] theorem evE_fld (C a f) : evE S (.fld C a f) φ st = R.bK (a := evE S a φ st) fun x st => if isIns C S.nf x st then getF x f st else none := Eq.trans rfl rfl
@[simp] theorem evE_mcall (C f a es) : evE S (.mcall C f a es) φ st = R.bK (a := evE S a φ st) fun x st => if isIns C S.nf x st then Rs.bK (a := evEs S es φ st) fun vs st => S.call f (x :: vs) st else none := Eq.trans rfl rfl
@[simp] theorem evE_new (C f es) : evE S (.new C f es) φ st = Rs.bK (a := evEs S es φ st) fun vs st => S.make C f vs st := Eq.trans rfl rfl
@[simp] theorem evE_xfld (i f) : evE S (.xfld i f) φ st = match φ[i]? with
    | some (some (.exn e)) => match S.xin e.cls with
      | some nf => if nf.2.any fun q => q.1 == f then okP st (look f e.fs) else none
      | none => none
    | _ => none := Eq.trans rfl rfl
@[simp] theorem evE_xisi (i C) : evE S (.xisi i C) φ st = match φ[i]? with
    | some (some (.exn e)) => match S.xin e.cls with
      | some _ => some (.ok (.pv (.bl (S.sub e.cls C))) st)
      | none => none
    | _ => none := Eq.trans rfl rfl
@[simp] theorem evE_dsel (kvs i) : evE S (.dsel kvs i) φ st = R.bK (a := evE S i φ st) fun y st => match y with
    | .pv k => match keyK k with
      | some k => okP st (look k kvs)
      | none => none
    | _ => none := Eq.trans rfl rfl
@[simp] theorem evE_tabD (t i) : evE S (.tabD t i) φ st = R.bK (a := evE S i φ st) fun y st => match S.dtab t, y with
    | some kvs, .pv (.str z) => okP st (look z kvs)
    | _, _ => none := Eq.trans rfl rfl
@[simp] theorem evE_slcL (a l lo h hi) : evE S (.slcL a l lo h hi) φ st = R.bK (a := evE S a φ st) fun x st => R.bK (a := if l then evE S lo φ st else some (.ok (.pv .non) st)) fun lv st => match optL l lv with
      | some lo => R.bK (a := if h then evE S hi φ st else some (.ok (.pv .non) st)) fun hv st => match optL h hv, peek st x with
        | some hi, some (.lst ps) => some (.ok (.ref st.length) (st ++ [.lst true ((cut ps lo hi).map .pv)]))
        | _, _ => none
      | none => none := Eq.trans rfl rfl
@[simp] theorem evE_lcopy (a) : evE S (.lcopy a) φ st = R.bK (a := evE S a φ st) fun x st => match sq st x with
    | some xs => if xs.length ≤ line then some (.ok (.ref st.length) (st ++ [.lst true xs])) else none
    | none => none := Eq.trans rfl rfl
@[simp] theorem evE_dpairs (a) : evE S (.dpairs a) φ st = R.bK (a := evE S a φ st) fun x st => match peek st x with
    | some (.lst ps) => (match pairsK ps with
      | some m => some (.ok (.ref st.length) (st ++ [.dk true (mergeD [] m)]))
      | none => none)
    | _ => none := Eq.trans rfl rfl
@[simp] theorem evE_dcopy (a) : evE S (.dcopy a) φ st = R.bK (a := evE S a φ st) fun x st => match peek st x with
    | some (.dk kvs) => some (.ok (.ref st.length) (st ++ [.dk true (kvs.map fun kv => (kv.1, .pv kv.2))]))
    | _ => none := Eq.trans rfl rfl
@[simp] theorem evE_cat (a b) : evE S (.cat a b) φ st = R.bK (a := evE S a φ st) fun x st => R.bK (a := evE S b φ st) fun y st => match sq st x, sq st y with
    | some xs, some ys => if xs.length + ys.length ≤ line then some (.ok (.ref st.length) (st ++ [.lst true (xs ++ ys)])) else none
    | _, _ => none := Eq.trans rfl rfl
def lcWV (live : Bool) (v : LV) (step : LV → Store → Option ERs) (st : Store) : Option ER := match v with
  | .ref n => match lcWalk step n (walkF n st) 0 st with
      | some (vs, st) => mkLst live vs st
      | none => none
  | _ => none
def lcWStep (S : Sem) (elt : ME) (tg : MG) (ifs : List MT) (own : List Nat) (φ : Slots) : LV → Store → Option ERs := fun x st => match asgG tg x (wipeL φ own) with
  | some φ1 => evIf S ifs φ1 st fun st => R.bsK (a := evE S elt φ1 st) fun y st => some (.ok [y] st)
  | none => none
def forWStep (S : Sem) (g : MG) (a : List MS) : LV → Slots → Store → Option FR := fun x φ st => match asgG g x φ with
  | some φ => exSs S a φ st
  | none => none
def forWV (v : LV) (step : LV → Slots → Store → Option FR) (φ : Slots) (st : Store) : Option FR := match v with
  | .ref n => forWalk step n (walkF n st) 0 φ st
  | _ => none
@[simp] theorem evE_lcW (live elt tg src ifs own) : evE S (.lcW live elt tg src ifs own) φ st = R.bK (a := evE S src φ st) fun v st => lcWV live v (lcWStep S elt tg ifs own φ) st := Eq.trans rfl rfl
@[simp] theorem exS_forW (g src a) : exS S (.forW g src a) φ st = R.bfK φ (a := evE S src φ st) fun v st => forWV v (forWStep S g a) φ st := Eq.trans rfl rfl
@[simp] theorem evEs_nil : evEs S [] φ st = some (.ok [] st) := Eq.trans rfl rfl
@[simp] theorem evEs_cons (e es) : evEs S (e :: es) φ st = R.bsK (a := evE S e φ st) fun v st => Rs.bsK (a := evEs S es φ st) fun vs st => some (.ok (v :: vs) st) := Eq.trans rfl rfl
@[simp] theorem evT_boolop (c es) : evT S (.boolop c es) φ st = evBT S c es φ st := Eq.trans rfl rfl
@[simp] theorem evT_not (t) : evT S (.not t) φ st = T.btK (a := evT S t φ st) fun b st => some (.ok (!b) st) := Eq.trans rfl rfl
@[simp] theorem evT_val (e) : evT S (.val e) φ st = R.btK (a := evE S e φ st) fun v st => (truL v st).map fun b => .ok b st := Eq.trans rfl rfl
@[simp] theorem evT_cmp (op a b) : evT S (.cmp op a b) φ st = R.btK (a := evE S a φ st) fun x st => R.btK (a := evE S b φ st) fun y st => cmpT op x y st := Eq.trans rfl rfl
@[simp] theorem evT_chain (o1 o2 a b c) : evT S (.chain o1 o2 a b c) φ st = R.btK (a := evE S a φ st) fun x st => R.btK (a := evE S b φ st) fun y st => T.btK (a := cmpT o1 x y st) fun k st => if k then R.btK (a := evE S c φ st) fun z st => cmpT o2 y z st else some (.ok false st) := Eq.trans rfl rfl
@[simp] theorem evT_isn (neg a) : evT S (.isn neg a) φ st = R.btK (a := evE S a φ st) fun x st => match x with
    | .pv .non => some (.ok (!neg) st)
    | _ => some (.ok neg st) := Eq.trans rfl rfl
@[simp] theorem evB_one (c e) : evB S c [e] φ st = evE S e φ st := Eq.trans rfl rfl
@[simp] theorem evB_cons (c e e' es) : evB S c (e :: e' :: es) φ st = R.bK (a := evE S e φ st) fun v st => match truL v st with
    | some b => if b == c then evB S c (e' :: es) φ st else some (.ok v st)
    | none => none := Eq.trans rfl rfl
@[simp] theorem evBT_one (c e) : evBT S c [e] φ st = evT S e φ st := Eq.trans rfl rfl
@[simp] theorem evBT_cons (c e e' es) : evBT S c (e :: e' :: es) φ st = T.btK (a := evT S e φ st) fun b st => if b == c then evBT S c (e' :: es) φ st else some (.ok b st) := Eq.trans rfl rfl
@[simp] theorem evIf_nil (k) : evIf S [] φ st k = k st := Eq.trans rfl rfl
@[simp] theorem evIf_cons (c cs k) : evIf S (c :: cs) φ st k = match evT S c φ st with
    | some (.ok true st) => k st
    | some (.ok false st) => some (.ok [] st)
    | some (.ex e st) => some (.ex e st)
    | none => none := Eq.trans rfl rfl
@[simp] theorem exS_ex (e) : exS S (.ex e) φ st = R.bfK φ (a := evE S e φ st) fun _ st => some (.nx φ st) := Eq.trans rfl rfl
@[simp] theorem exS_asg (g e) : exS S (.asg g e) φ st = R.bfK φ (a := evE S e φ st) fun v st => (asgG g v φ).map fun φ => .nx φ st := Eq.trans rfl rfl
@[simp] theorem exS_asgI (a i e) : exS S (.asgI a i e) φ st = R.bfK φ (a := evE S e φ st) fun v st => R.bfK φ (a := evE S a φ st) fun x st => R.bfK φ (a := evE S i φ st) fun y st => (setI x y v st).map fun st => .nx φ st := Eq.trans rfl rfl
@[simp] theorem exS_aug (i op e) : exS S (.aug i op e) φ st = match φ[i]? with
    | some (some x) => R.bfK φ (a := evE S e φ st) fun y st => R.bfK φ (a := augOp op x y st) fun z st => some (.nx (φ.set i (some z)) st)
    | _ => none := Eq.trans rfl rfl
@[simp] theorem exS_augI (a i op e) : exS S (.augI a i op e) φ st = R.bfK φ (a := evE S a φ st) fun x st => R.bfK φ (a := evE S i φ st) fun y st => R.bfK φ (a := getI x y st) fun v st => R.bfK φ (a := evE S e φ st) fun w st =>
      R.bfK φ (a := augOp op v w st) fun z st => (setI x y z st).map fun st => .nx φ st := Eq.trans rfl rfl
@[simp] theorem exS_iff (c a b) : exS S (.iff c a b) φ st = T.bfK φ (a := evT S c φ st) fun d st => if d then exSs S a φ st else exSs S b φ st := Eq.trans rfl rfl
@[simp] theorem exS_whl (c a) : exS S (.whl c a) φ st = whLoop (evT S c) (exSs S a) S.wf φ st := Eq.trans rfl rfl
@[simp] theorem exS_for (g ik src a) : exS S (.for_ g ik src a) φ st = Rs.bfK φ (a := evEs S src φ st) fun vs st => forV ik vs (forStep S g a) φ st := Eq.trans rfl rfl
@[simp] theorem exS_ret (e) : exS S (.ret e) φ st = R.bfK φ (a := evE S e φ st) fun v st => some (.rt v st) := Eq.trans rfl rfl
@[simp] theorem exS_retN : exS S .retN φ st = some (.rt (.pv .non) st) := Eq.trans rfl rfl
@[simp] theorem exS_fset (C a f e) : exS S (.fset C a f e) φ st = R.bfK φ (a := evE S e φ st) fun v st => R.bfK φ (a := evE S a φ st) fun x st => if isIns C S.nf x st then (setFl x f v st).map fun st => .nx φ st else none := Eq.trans rfl rfl
@[simp] theorem exS_faug (C a f op e) : exS S (.faug C a f op e) φ st = R.bfK φ (a := evE S a φ st) fun x st => if isIns C S.nf x st then R.bfK φ (a := getF x f st) fun v st => R.bfK φ (a := evE S e φ st) fun w st =>
      R.bfK φ (a := augOp op v w st) fun z st => if isIns C S.nf x st then (setFl x f z st).map fun st => .nx φ st else none
    else none := Eq.trans rfl rfl
@[simp] theorem exS_raise (C es) : exS S (.raise C es) φ st = Rs.bfK φ (a := evEs S es φ st) fun vs st => match S.xin C, unpv vs with
    | some (n, fl), some ps => if ps.length = n then (extP ps [] fl).map fun fs => .ex ⟨C, fs⟩ φ st else none
    | _, _ => none := Eq.trans rfl rfl
@[simp] theorem exS_try (body C slot suite) : exS S (.tryE body C slot suite) φ st = match exSs S body φ st with
    | some (.ex e φ1 st1) => if (S.xin e.cls).isNone then none else if S.sub e.cls C then unslot slot (exSs S suite (match slot with
        | some i => φ1.set i (some (.exn e))
        | none => φ1) st1) else some (.ex e φ1 st1)
    | r => r := Eq.trans rfl rfl
@[simp] theorem exS_brk : exS S .brk φ st = some (.bk φ st) := Eq.trans rfl rfl
@[simp] theorem exS_cnt : exS S .cnt φ st = some (.ct φ st) := Eq.trans rfl rfl
@[simp] theorem exS_pass : exS S .pass φ st = some (.nx φ st) := Eq.trans rfl rfl
end
section
variable {S : Sem} {f : Nat} {st st1 : Store}
theorem call_pv {ps : List PV} {p : PV} (hs : S.shr f = false) (h : S.cal f (ps.map .pv) [] = some (.ok (.pv p) st1)) : S.call f (ps.map .pv) st = some (.ok (.pv p) st) := by
  unfold Sem.call
  rw [hs, unpv_map]
  simp only [h, frz, Option.map_some]
theorem call_ex {ps : List PV} {e : Ex} (hs : S.shr f = false) (h : S.cal f (ps.map .pv) [] = some (.ex e st1)) : S.call f (ps.map .pv) st = some (.ex e st) := by
  unfold Sem.call
  rw [hs, unpv_map]
  simp only [h]
end
section
variable {P : Prog} {n f : Nat} {st st1 : Store}
/-- one argument, two, three: trees -/
theorem call1 {a p : PV} (hs : P.shr f = false) (h : P.cal n f [.pv a] [] = some (.ok (.pv p) st1)) : (P.sem n).call f [.pv a] st = some (.ok (.pv p) st) := call_pv (S := P.sem n) (ps := [a]) hs h
theorem call2 {a b p : PV} (hs : P.shr f = false) (h : P.cal n f [.pv a, .pv b] [] = some (.ok (.pv p) st1)) : (P.sem n).call f [.pv a, .pv b] st = some (.ok (.pv p) st) := call_pv (S := P.sem n) (ps := [a, b]) hs h
theorem call3 {a b c p : PV} (hs : P.shr f = false) (h : P.cal n f [.pv a, .pv b, .pv c] [] = some (.ok (.pv p) st1)) : (P.sem n).call f [.pv a, .pv b, .pv c] st = some (.ok (.pv p) st) := call_pv (S := P.sem n) (ps := [a, b, c]) hs h
theorem callx1 {a : PV} {e : Ex} (hs : P.shr f = false) (h : P.cal n f [.pv a] [] = some (.ex e st1)) : (P.sem n).call f [.pv a] st = some (.ex e st) := call_ex (S := P.sem n) (ps := [a]) hs h
theorem callx2 {a b : PV} {e : Ex} (hs : P.shr f = false) (h : P.cal n f [.pv a, .pv b] [] = some (.ex e st1)) : (P.sem n).call f [.pv a, .pv b] st = some (.ex e st) := call_ex (S := P.sem n) (ps := [a, b]) hs h
theorem callx3 {a b c : PV} {e : Ex} (hs : P.shr f = false) (h : P.cal n f [.pv a, .pv b, .pv c] [] = some (.ex e st1)) : (P.sem n).call f [.pv a, .pv b, .pv c] st = some (.ex e st) := call_ex (S := P.sem n) (ps := [a, b, c]) hs h
end
theorem cal_eq (P : Prog) (n f : Nat) (d : MD) (vs : List LV) (st : Store) (h : P.defs[f]? = some d) (hl : vs.length = d.ar) : P.cal (n + 1) f vs st = endR (exSs (P.sem n) d.body (vs.map some ++ List.replicate (d.nn - d.ar) none) st) := by
  rw [cal_succ h]
  unfold MD.run
  rw [if_pos hl]
end Z
end

section
/-! ZW: plain facts about trees, loops, comprehensions. -/
namespace Z
mutual
theorem eqP_refl : ∀ p : PV, eqOk p = true → eqP p p = true
  | .non, _ => rfl
  | .bl b, _ => by simp [eqP]
  | .int i, _ => by simp [eqP]
  | .str s, _ => by simp [eqP]
  | .tup xs, h => by simp only [eqP]; exact eqPs_refl xs (by simpa [eqOk] using h)
  | .lst xs, h => by simp only [eqP]; exact eqPs_refl xs (by simpa [eqOk] using h)
  | .dk _, h => by simp [eqOk] at h
  | .dt _, h => by simp [eqOk] at h
  | .scr _, h => by simp [eqOk] at h
theorem eqPs_refl : ∀ ps : List PV, eqOks ps = true → eqPs ps ps = true
  | [], _ => rfl
  | x :: xs, h => by
    simp only [eqOks, Bool.and_eq_true] at h
    simp only [eqPs, eqP_refl x h.1, eqPs_refl xs h.2, Bool.and_self]
end
theorem opEq_self {p : PV} (h : eqOk p = true) (hd : dep p ≤ maxDep) : opEq p p = some true := by
  unfold opEq
  rw [h, eqP_refl p h, Nat.min_self, decide_eq_true hd]; rfl
theorem ne_self {p : PV} (h : eqOk p = true) (hd : dep p ≤ maxDep) : doCmp .ne p p = some false := by
  simp only [doCmp, opEq_self h hd, Option.map_some, Bool.not_true]
theorem eq_self {p : PV} (h : eqOk p = true) (hd : dep p ≤ maxDep) : doCmp .eq p p = some true := by
  simp only [doCmp, opEq_self h hd]
theorem opEq_str (a b : Sg) : opEq (.str a) (.str b) = some (decide (a = b)) := by
  simp only [opEq, eqOk, dep, eqP, Bool.and_self, Nat.min_self, Nat.zero_le, decide_true, Bool.and_true, if_true]
  congr 1
  exact Bool.eq_iff_iff.mpr (by simp)
theorem opEq_int (a b : Int) : opEq (.int a) (.int b) = some (decide (a = b)) := by
  simp only [opEq, eqOk, dep, eqP, Bool.and_self, Nat.min_self, Nat.zero_le, decide_true, Bool.and_true, if_true]
  congr 1
@[simp] theorem eq_str (a b : Sg) : doCmp .eq (.str a) (.str b) = some (decide (a = b)) := opEq_str a b
@[simp] theorem ne_str (a b : Sg) : doCmp .ne (.str a) (.str b) = some (!decide (a = b)) := by simp only [doCmp, opEq_str, Option.map_some]
@[simp] theorem eq_int (a b : Int) : doCmp .eq (.int a) (.int b) = some (decide (a = b)) := opEq_int a b
@[simp] theorem ne_int (a b : Int) : doCmp .ne (.int a) (.int b) = some (!decide (a = b)) := by simp only [doCmp, opEq_int, Option.map_some]
@[simp] theorem lt_int (a b : Int) : doCmp .lt (.int a) (.int b) = some (decide (a < b)) := rfl
@[simp] theorem le_int (a b : Int) : doCmp .le (.int a) (.int b) = some (decide (a ≤ b)) := rfl
@[simp] theorem gt_int (a b : Int) : doCmp .gt (.int a) (.int b) = some (decide (b < a)) := rfl
@[simp] theorem ge_int (a b : Int) : doCmp .ge (.int a) (.int b) = some (decide (b ≤ a)) := rfl
@[simp] theorem eq_bl (a b : Bool) : doCmp .eq (.bl a) (.bl b) = some (a == b) := rfl
@[simp] theorem ne_bl (a b : Bool) : doCmp .ne (.bl a) (.bl b) = some (!(a == b)) := rfl
@[simp] theorem add_int (a b : Int) : doBin .add (.int a) (.int b) = some (.int (a + b)) := rfl
@[simp] theorem sub_int (a b : Int) : doBin .sub (.int a) (.int b) = some (.int (a - b)) := rfl
@[simp] theorem tru_bl (b : Bool) : tru (.bl b) = some b := rfl
@[simp] theorem tru_non : tru .non = some false := rfl
@[simp] theorem len_lst (xs : List PV) : doBI .len [.lst xs] = some (.int xs.length) := rfl
@[simp] theorem len_tup (xs : List PV) : doBI .len [.tup xs] = some (.int xs.length) := rfl
theorem len_str {s : Sg} (h : s.length ≤ line) : doBI .len [.str s] = some (.int s.length) := by simp only [doBI, if_pos h]
theorem cat_str {a b : Sg} (h : a.length + b.length ≤ line) : doBin .add (.str a) (.str b) = some (.str (a ++ b)) := by simp only [doBin, if_pos h]
theorem cat_lst {a b : List PV} (h : a.length + b.length ≤ line) : doBin .add (.lst a) (.lst b) = some (.lst (a ++ b)) := by simp only [doBin, if_pos h]
/-! ### subscripts, slices -/
theorem atI_nat {α : Type} {xs : List α} {k : Nat} (h : k < xs.length) : atI xs (k : Int) = xs[k]? := by
  have h0 : (0 : Int) ≤ k := Int.natCast_nonneg k
  have h1 : (k : Int) < xs.length := Int.ofNat_lt.mpr h
  simp only [atI, ixN, if_pos h0, if_pos h1, Int.toNat_natCast]
@[simp] theorem atI_zero {α : Type} (x : α) (xs : List α) : atI (x :: xs) 0 = some x := by
  have := atI_nat (xs := x :: xs) (k := 0) (by simp)
  simpa using this
@[simp] theorem atI_one {α : Type} (x y : α) (xs : List α) : atI (x :: y :: xs) 1 = some y := by
  have := atI_nat (xs := x :: y :: xs) (k := 1) (by simp)
  simpa using this
@[simp] theorem atI_two {α : Type} (x y z : α) (xs : List α) : atI (x :: y :: z :: xs) 2 = some z := by
  have := atI_nat (xs := x :: y :: z :: xs) (k := 2) (by simp)
  simpa using this
theorem atI_last {α : Type} (xs : List α) (x : α) : atI (xs ++ [x]) (-1) = some x := by
  unfold atI ixN
  have h0 : ¬ (0 : Int) ≤ -1 := by decide
  have h1 : -(((xs ++ [x]).length : Nat) : Int) ≤ -1 := by simp; omega
  rw [if_neg h0, if_pos h1]
  have h2 : (-1 + (((xs ++ [x]).length : Nat) : Int)).toNat = xs.length := by simp; omega
  simp only [h2]
  simp
@[simp] theorem idx_lst (xs : List PV) (i : Int) : doIdx (.lst xs) (.int i) = atI xs i := rfl
@[simp] theorem idx_tup (xs : List PV) (i : Int) : doIdx (.tup xs) (.int i) = atI xs i := rfl
theorem idx_str {s : Sg} {k : Nat} (hl : s.length ≤ line) (h : k < s.length) : doIdx (.str s) (.int (k : Int)) = (s[k]?).map fun c => .str [c] := by
  simp only [doIdx, if_pos hl, atI_nat h]
theorem cut_to {α : Type} (xs : List α) {k : Nat} (h : k ≤ xs.length) : cut xs none (some (k : Int)) = xs.take k := by
  unfold cut sIx
  have h0 : ¬ ((k : Int) < 0) := by omega
  simp [if_neg h0, Nat.min_eq_left h]
theorem cut_from {α : Type} (xs : List α) {k : Nat} (h : k ≤ xs.length) : cut xs (some (k : Int)) none = xs.drop k := by
  unfold cut sIx
  have h0 : ¬ ((k : Int) < 0) := by omega
  simp only [if_neg h0, Int.toNat_natCast, Nat.min_eq_left h]
  rw [List.take_of_length_le]
  simp
theorem cut_from_big {α : Type} (xs : List α) {k : Nat} (h : xs.length ≤ k) : cut xs (some (k : Int)) none = [] := by
  unfold cut sIx
  have h0 : ¬ ((k : Int) < 0) := by omega
  simp [if_neg h0, Nat.min_eq_right h]
/-! ### loops -/
theorem upto_length (lo : Int) (n : Nat) : (upto lo n).length = n := by
  induction n generalizing lo with
  | zero => rfl
  | succ n ih => simp [upto, ih]
@[simp] theorem forLoop_nil (step) (φ : Slots) (st : Store) : forLoop step [] φ st = some (.nx φ st) := rfl
theorem forLoop_cons (step) (x : PV) (xs : List PV) (φ : Slots) (st : Store) : forLoop step (x :: xs) φ st = match step x φ st with
    | some (.nx φ st) => forLoop step xs φ st
    | some (.ct φ st) => forLoop step xs φ st
    | some (.bk φ st) => some (.nx φ st)
    | r => r := rfl
/-- a loop that goes through -/
theorem forLoop_inv {step : PV → Slots → Store → Option FR} (I : Nat → Slots → Store → Prop) : ∀ (xs : List PV) (k : Nat) (φ : Slots) (st : Store), I k φ st →
    (∀ i x φ st, xs[i]? = some x → I (k + i) φ st → ∃ φ' st', step x φ st = some (.nx φ' st') ∧ I (k + i + 1) φ' st') → ∃ φ' st', forLoop step xs φ st = some (.nx φ' st') ∧ I (k + xs.length) φ' st'
  | [], k, φ, st, h0, _ => ⟨φ, st, rfl, h0⟩
  | x :: xs, k, φ, st, h0, h => by
    obtain ⟨φ1, st1, e1, i1⟩ := h 0 x φ st rfl h0
    obtain ⟨φ2, st2, e2, i2⟩ := forLoop_inv I xs (k + 1) φ1 st1 i1 fun i y φ st hy hi => by
      have := h (i + 1) y φ st (by simpa using hy) (by rw [show k + (i + 1) = k + 1 + i by omega]; exact hi)
      rwa [show k + (i + 1) + 1 = k + 1 + i + 1 by omega] at this
    refine ⟨φ2, st2, ?_, by rw [List.length_cons, show k + (xs.length + 1) = k + 1 + xs.length by omega]; exact i2⟩
    rw [forLoop_cons, e1]
    exact e2
/-! ### the draw -/
section
variable {P : Prog} {n f : Nat}
theorem draw_call (hd : P.defs[f]? = some drawMD) (F : Fd) {m : Int} (h1 : 0 < m) (h2 : m < 1073741824) {st : Store} {r : Nat} (hr : st[r]? = some F.cell) :
    (P.sem (n + 1)).call f [.ref r, .pv (.int m)] st = some (.ok (.pv (.int (F.draw m).1)) (st.set r (F.draw m).2.cell)) := by
  obtain ⟨_, _, run⟩ := F.draw_spec h1 h2
  have e : (P.sem (n + 1)).cal f [.ref r, .pv (.int m)] st = some (.ok (.pv (.int (F.draw m).1)) (st.set r (F.draw m).2.cell)) := by
    show P.cal (n + 1) f _ _ = _
    rw [cal_succ hd]
    exact run _ _ _ hr
  unfold Sem.call
  have hn : unpv [LV.ref r, LV.pv (.int m)] = none := rfl
  rw [hn]
  have ht : ∀ b, trunc st.length b (st.set r (F.draw m).2.cell) = st.set r (F.draw m).2.cell := fun b => by
    unfold trunc
    split
    · rw [List.take_of_length_le (by rw [List.length_set]; exact Nat.le_refl _)]
    · rfl
  cases (P.sem (n + 1)).shr f <;> simp only [e, ht]
/-- where nothing but the feed stands -/
theorem draw0 (hd : P.defs[f]? = some drawMD) (F : Fd) {m : Int} (h1 : 0 < m) (h2 : m < 1073741824) :
    (P.sem (n + 1)).call f [.ref 0, .pv (.int m)] [F.cell] = some (.ok (.pv (.int (F.draw m).1)) [(F.draw m).2.cell]) := draw_call hd F h1 h2 (st := [F.cell]) (r := 0) rfl
theorem draw_nat (F : Fd) {m : Int} (h1 : 0 < m) (h2 : m < 1073741824) : ∃ k : Nat, (F.draw m).1 = (k : Int) ∧ (k : Int) < m := by
  obtain ⟨k1, k2, _⟩ := F.draw_spec h1 h2
  exact ⟨(F.draw m).1.toNat, by omega, by omega⟩
end
end Z
namespace Z
/-! ### cells -/
section
variable {st : Store} {r : Nat} {b : Bool} {L : List LV} {v : LV}
theorem getI_ref {i : Int} (h : st[r]? = some (.lst b L)) (hi : atI L i = some v) : getI (.ref r) (.pv (.int i)) st = some (.ok v st) := by
  simp only [getI, h, hi]
theorem lenL_ref (h : st[r]? = some (.lst b L)) : lenL (.ref r) st = some L.length := by simp only [lenL, h]
theorem bm_append (h : st[r]? = some (.lst b L)) : bmOk .append (.ref r) st = true := by simp only [bmOk, h]
theorem bm_pop (h : st[r]? = some (.lst b L)) : bmOk .pop0 (.ref r) st = true := by simp only [bmOk, h]
theorem do_append (h : st[r]? = some (.lst true L)) (hl : L.length < line) : doBM .append (.ref r) [v] st = some (.ok (.pv .non) (st.set r (.lst true (L ++ [v])))) := by
  simp only [doBM, h, if_pos hl]
theorem do_pop (h : st[r]? = some (.lst true (L ++ [v]))) : doBM .pop0 (.ref r) [] st = some (.ok v (st.set r (.lst true L))) := by
  simp only [doBM, h, List.getLast?_append, List.getLast?_singleton, Option.some_or, List.dropLast_concat]
theorem mkLst_live (vs : List LV) (hl : vs.length ≤ line) : mkLst true vs st = some (.ok (.ref st.length) (st ++ [.lst true vs])) := by
  unfold mkLst
  rw [if_pos hl]; rfl
@[simp] theorem mkLst_live0 : mkLst true [] st = some (.ok (.ref st.length) (st ++ [.lst true []])) := rfl
theorem peek_ref {ps : List PV} (h : st[r]? = some (.lst b (ps.map .pv))) : peek st (.ref r) = some (.lst ps) := by
  simp only [peek, h, unpv_map, Option.map_some]
theorem frz_ref {ps : List PV} (h : st[r]? = some (.lst b (ps.map .pv))) : frz (.ref r) st = some (.lst ps, st.set r (.lst false (ps.map .pv))) := by
  simp only [frz, h, unpv_map]
end
end Z
namespace Z
theorem range_ok {n : Nat} (h : n ≤ line) : rangeOk (n : Int) = true := by
  have h1 : line = 16777216 := rfl
  have a : -(2 ^ 62 : Int) ≤ (n : Int) := by omega
  have b : (n : Int) < 2 ^ 62 := by omega
  unfold rangeOk
  rw [decide_eq_true a, decide_eq_true b]
  rfl
theorem items_upto {n : Nat} (h : n ≤ line) : items .range [.int (n : Int)] = some ((upto 0 n).map .int) := by
  simp only [items, range_ok h, if_true, Int.toNat_natCast]
theorem items_upto2 {m n : Nat} (h : n ≤ line) (hm : m ≤ line) : items .range [.int (m : Int), .int (n : Int)] = some ((upto m (n - m)).map .int) := by
  have e : ((n : Int) - (m : Int)).toNat = n - m := by omega
  simp only [items, range_ok h, range_ok hm, Bool.and_self, if_true, e]
theorem items_str {s : Sg} (h : s.length ≤ line) : items .val [.str s] = some (s.map fun c => .str [c]) := by simp only [items, if_pos h]
@[simp] theorem items_lst (xs : List PV) : items .val [.lst xs] = some xs := rfl
@[simp] theorem items_tup (xs : List PV) : items .val [.tup xs] = some xs := rfl
end Z
namespace Z
theorem forV_upto {n : Nat} (h : n ≤ line) (step) (φ : Slots) (st : Store) : forV .range [.pv (.int (n : Int))] step φ st = forLoop step ((upto 0 n).map .int) φ st := forV_of (ps := [.int n]) (items_upto h) step φ st
@[simp] theorem forV_lst (xs : List PV) (step) (φ : Slots) (st : Store) : forV .val [.pv (.lst xs)] step φ st = forLoop step xs φ st := forV_of (ps := [.lst xs]) rfl step φ st
@[simp] theorem forV_tup (xs : List PV) (step) (φ : Slots) (st : Store) : forV .val [.pv (.tup xs)] step φ st = forLoop step xs φ st := forV_of (ps := [.tup xs]) rfl step φ st
theorem forV_str {s : Sg} (h : s.length ≤ line) (step) (φ : Slots) (st : Store) : forV .val [.pv (.str s)] step φ st = forLoop step (s.map fun c => .str [c]) φ st := forV_of (ps := [.str s]) (items_str h) step φ st
theorem lcV_upto {live : Bool} {n : Nat} (h : n ≤ line) {step} {st st1 : Store} {vs : List LV} (hl : lcLoop step ((upto 0 n).map .int) st = some (vs, st1)) : lcV live .range [.pv (.int (n : Int))] step st = mkLst live vs st1 := lcV_of (ps := [.int n]) (items_upto h) hl
theorem lcV_lst {live : Bool} {xs : List PV} {step} {st st1 : Store} {vs : List LV} (hl : lcLoop step xs st = some (vs, st1)) : lcV live .val [.pv (.lst xs)] step st = mkLst live vs st1 := lcV_of (ps := [.lst xs]) rfl hl
theorem lcV_tup {live : Bool} {xs : List PV} {step} {st st1 : Store} {vs : List LV} (hl : lcLoop step xs st = some (vs, st1)) : lcV live .val [.pv (.tup xs)] step st = mkLst live vs st1 := lcV_of (ps := [.tup xs]) rfl hl
theorem lcV_str {live : Bool} {s : Sg} (h : s.length ≤ line) {step} {st st1 : Store} {vs : List LV} (hl : lcLoop step (s.map fun c => .str [c]) st = some (vs, st1)) : lcV live .val [.pv (.str s)] step st = mkLst live vs st1 := lcV_of (ps := [.str s]) (items_str h) hl
end Z
namespace Z
/-! ### where nothing but the feed stands -/
def Fed (st : Store) : Prop := ∃ F : Fd, st = [F.cell]
theorem Fd.below (F : Fd) : Cell.below 1 F.cell = true := by
  simp [Fd.cell, feedC, Cell.below, belows, Z.below]
section
variable {P : Prog} {n f : Nat} {st st1 : Store}
theorem fed_draw (hd : P.defs[f]? = some drawMD) (h : Fed st) {m : Int} (h1 : 0 < m) (h2 : m < 1073741824) :
    ∃ (k : Nat) (st' : Store), (P.sem (n + 1)).call f [.ref 0, .pv (.int m)] st = some (.ok (.pv (.int (k : Int))) st') ∧ (k : Int) < m ∧ Fed st' := by
  obtain ⟨F, rfl⟩ := h
  obtain ⟨k, e, hk⟩ := draw_nat F h1 h2
  refine ⟨k, _, ?_, hk, ⟨(F.draw m).2, rfl⟩⟩
  rw [draw0 hd F h1 h2, e]
/-- a def that is handed the feed -/
theorem call_fed {vs : List LV} {p : PV} {g : Store} {F' : Fd} (h : Fed st) (e : P.cal n f (.ref 0 :: vs) st = some (.ok (.pv p) (F'.cell :: g))) : (P.sem n).call f (.ref 0 :: vs) st = some (.ok (.pv p) [F'.cell]) := by
  obtain ⟨F, rfl⟩ := h
  have e' : (P.sem n).cal f (.ref 0 :: vs) [F.cell] = some (.ok (.pv p) (F'.cell :: g)) := e
  have ht : ∀ b, b = true → trunc [F.cell].length b (F'.cell :: g) = [F'.cell] := fun b hb => by
    subst hb
    simp [trunc, F'.below]
  unfold Sem.call
  have hu : unpv (LV.ref 0 :: vs) = none := rfl
  rw [hu]
  cases (P.sem n).shr f <;> simp only [e', ht _ (show below [F.cell].length (.pv p) = true from rfl)]
theorem call_fed' {vs : List LV} {p : PV} (h : Fed st) (e : P.cal n f (.ref 0 :: vs) st = some (.ok (.pv p) st1)) (h1 : Fed st1) : (P.sem n).call f (.ref 0 :: vs) st = some (.ok (.pv p) st1) := by
  obtain ⟨F', rfl⟩ := h1
  exact call_fed h e
end
/-- a comprehension that goes through -/
theorem lcLoop_inv {step : PV → Store → Option ERs} (I : Store → Prop) (Q : LV → Prop) : ∀ (xs : List PV) (st : Store), I st →
    (∀ x ∈ xs, ∀ st, I st → ∃ v st', step x st = some (.ok [v] st') ∧ I st' ∧ Q v) → ∃ vs st', lcLoop step xs st = some (vs, st') ∧ I st' ∧ vs.length = xs.length ∧ ∀ v ∈ vs, Q v
  | [], st, h, _ => ⟨[], st, rfl, h, rfl, fun v hv => by simp at hv⟩
  | x :: xs, st, h, hs => by
    obtain ⟨v, st1, e1, i1, q1⟩ := hs x (by simp) st h
    obtain ⟨vs, st2, e2, i2, l2, q2⟩ := lcLoop_inv I Q xs st1 i1 fun y hy => hs y (by simp [hy])
    refine ⟨v :: vs, st2, ?_, i2, by simp [l2], fun w hw => ?_⟩
    · unfold lcLoop
      rw [e1]
      simp only [noX, e2, List.singleton_append]
    · rcases List.mem_cons.mp hw with z | z
      · rw [z]; exact q1
      · exact q2 w z
end Z
end

section
/-! ZX: more plain lemmas: calls that keep the store's length, loops, draws. -/
namespace Z
section
variable {P : Prog} {n f : Nat} {st st1 : Store}
theorem trunc_len {st1 st : Store} {b : Bool} (h : st1.length = st.length) : trunc st.length b st1 = st1 := by
  unfold trunc
  split
  · rw [List.take_of_length_le (by omega)]
  · rfl
theorem call_len {vs : List LV} {v : LV} (hu : unpv vs = none) (h : P.cal n f vs st = some (.ok v st1)) (hl : st1.length = st.length) : (P.sem n).call f vs st = some (.ok v st1) := by
  have h' : (P.sem n).cal f vs st = some (.ok v st1) := h
  unfold Sem.call
  rw [hu]
  cases (P.sem n).shr f <;> simp only [h', trunc_len hl]
theorem callx_len {vs : List LV} {e : Ex} (hu : unpv vs = none) (h : P.cal n f vs st = some (.ex e st1)) (hl : st1.length = st.length) : (P.sem n).call f vs st = some (.ex e st1) := by
  have h' : (P.sem n).cal f vs st = some (.ex e st1) := h
  unfold Sem.call
  rw [hu]
  cases (P.sem n).shr f <;> simp only [h', trunc_len hl]
end
theorem make_of {P : Prog} {n C f : Nat} {vs : List LV} {st st1 : Store} (h : P.cal n f (.ref st.length :: vs) (st ++ [.ins C []]) = some (.ok (.pv .non) st1)) (hl : st1.length = st.length + 1) : (P.sem (n + 1)).make C f vs st = some (.ok (.ref st.length) st1) := by
  have h' : (P.sem (n + 1)).cal1 f (.ref st.length :: vs) (st ++ [.ins C []]) = some (.ok (.pv .non) st1) := h
  unfold Sem.make
  rw [h']
  simp only
  have : trunc (st.length + 1) true st1 = st1 := by
    unfold trunc
    split
    · rw [List.take_of_length_le (by omega)]
    · rfl
  rw [this]
theorem whLoop_false {c : Slots → Store → Option ET} {b : Slots → Store → Option FR} {n : Nat} {φ : Slots} {st : Store} (h : c φ st = some (.ok false st)) : whLoop c b (n + 1) φ st = some (.nx φ st) := by
  simp [whLoop, h, T.bf]
theorem whLoop_true {c : Slots → Store → Option ET} {b : Slots → Store → Option FR} {n : Nat} {φ φ' : Slots} {st st1 st' : Store} (h : c φ st = some (.ok true st1)) (h2 : b φ st1 = some (.nx φ' st')) : whLoop c b (n + 1) φ st = whLoop c b n φ' st' := by
  simp [whLoop, h, h2, T.bf]
theorem upto_mem {n : Nat} {x : PV} (h : x ∈ (upto 0 n).map PV.int) : ∃ k : Nat, k < n ∧ x = .int (k : Int) := by
  obtain ⟨i, hi, e⟩ := List.mem_map.mp h
  obtain ⟨k, hk, e2⟩ := List.mem_iff_getElem.mp hi
  rw [upto_length] at hk
  refine ⟨k, hk, ?_⟩
  have := upto_get 0 n k hk
  rw [List.getElem?_eq_getElem (by rw [upto_length]; exact hk), e2] at this
  cases this
  rw [← e]; simp
theorem forLoop_or {step : PV → Slots → Store → Option FR} (I : Slots → Store → Prop) (Q : LV → Store → Prop) : ∀ (xs : List PV) (φ : Slots) (st : Store), I φ st →
    (∀ x φ st, I φ st → (∃ φ' st', step x φ st = some (.nx φ' st') ∧ I φ' st') ∨ ∃ v st', step x φ st = some (.rt v st') ∧ Q v st') →
    (∃ φ' st', forLoop step xs φ st = some (.nx φ' st') ∧ I φ' st') ∨ ∃ v st', forLoop step xs φ st = some (.rt v st') ∧ Q v st'
  | [], φ, st, h, _ => .inl ⟨φ, st, rfl, h⟩
  | x :: xs, φ, st, h, hs => by
    rw [forLoop_cons]
    rcases hs x φ st h with ⟨φ', st', e, i⟩ | ⟨v, st', e, q⟩
    · rw [e]
      exact forLoop_or I Q xs φ' st' i hs
    · rw [e]
      exact .inr ⟨v, st', rfl, q⟩
def HasF (st : Store) : Prop := ∃ F : Fd, st[0]? = some F.cell
theorem hasF_draw {P : Prog} {f n : Nat} (hd : P.defs[f]? = some drawMD) {st : Store} (h : HasF st) {m : Int} (h1 : 0 < m) (h2 : m < 1073741824) : ∃ (k : Nat) (st' : Store), (P.sem (n + 1)).call f [.ref 0, .pv (.int m)] st = some (.ok (.pv (.int (k : Int))) st') ∧ (k : Int) < m ∧ HasF st' ∧ st'.length = st.length ∧ st'.tail = st.tail := by
  obtain ⟨F, hF⟩ := h
  obtain ⟨k, e, hk⟩ := draw_nat F h1 h2
  have c := draw_call (P := P) (n := n) hd F h1 h2 hF
  rw [e] at c
  exact ⟨k, _, c, hk, ⟨(F.draw m).2, by
    rw [List.getElem?_set_self]
    exact (List.getElem?_eq_some_iff.mp hF).1⟩, by simp, by cases st <;> simp⟩
theorem hasF_draw' {P : Prog} {f n : Nat} (hd : P.defs[f]? = some drawMD) {st : Store} (h : HasF st) {m : Int} (h1 : 0 < m) (h2 : m < 1073741824) : ∃ (k : Nat) (st' : Store), (P.sem (n + 1)).call f [.ref 0, .pv (.int m)] st = some (.ok (.pv (.int (k : Int))) st') ∧ (k : Int) < m ∧ HasF st' ∧ st'.length = st.length ∧ ∀ r, r ≠ 0 → st'[r]? = st[r]? := by
  obtain ⟨k, st', e, hk, hf, hl, ht⟩ := hasF_draw (n := n) hd h h1 h2
  refine ⟨k, st', e, hk, hf, hl, fun r hr => ?_⟩
  cases st with
  | nil => cases st' with
    | nil => rfl
    | cons _ _ => simp at hl
  | cons a st => cases st' with
    | nil => simp at hl
    | cons b st' =>
      simp only [List.tail_cons] at ht
      subst ht
      cases r with
      | zero => exact absurd rfl hr
      | succ r => rfl
theorem hasF_cons {st : Store} (h : HasF st) : ∃ (F : Fd) (g : Store), st = F.cell :: g := by
  obtain ⟨F, hF⟩ := h
  cases st with
  | nil => simp at hF
  | cons c g =>
    simp at hF
    exact ⟨F, g, by rw [hF]⟩
theorem hasF_app {st g : Store} (h : HasF st) : HasF (st ++ g) := by
  obtain ⟨F, hF⟩ := h
  exact ⟨F, by rw [List.getElem?_append_left (List.getElem?_eq_some_iff.mp hF).1]; exact hF⟩
theorem hasF_set {st : Store} (h : HasF st) {r : Nat} (hr : r ≠ 0) (c : Cell) : HasF (st.set r c) := by
  obtain ⟨F, hF⟩ := h
  exact ⟨F, by rw [List.getElem?_set_ne (by omega)]; exact hF⟩
theorem Fed.hasF {st : Store} (h : Fed st) : HasF st := by
  obtain ⟨F, rfl⟩ := h
  exact ⟨F, rfl⟩
/-- a def handed the feed gives a tree: what it made is gone -/
theorem fed_of {P : Prog} {n f : Nat} {vs : List LV} {p : PV} {st st' : Store} (h : Fed st) (e : P.cal n f (.ref 0 :: vs) st = some (.ok (.pv p) st')) (h' : HasF st') : ∃ st1, (P.sem n).call f (.ref 0 :: vs) st = some (.ok (.pv p) st1) ∧ Fed st1 := by
  obtain ⟨F, g, rfl⟩ := hasF_cons h'
  exact ⟨_, call_fed h e, F, rfl⟩
theorem strs_one : ∀ ys : List Nat, strsOf (ys.map fun y => PV.str [y]) = some (ys.map fun y => [y])
  | [] => rfl
  | y :: ys => by simp [strsOf, strs_one ys]
theorem strsOf_map : ∀ ys : List Sg, strsOf (ys.map PV.str) = some ys
  | [] => rfl
  | y :: ys => by simp [strsOf, strsOf_map ys]
theorem join_nil : ∀ ys : List Sg, joinS [] ys = ys.flatten
  | [] => rfl
  | [y] => by simp [joinS]
  | y :: z :: ys => by
    have := join_nil (z :: ys)
    simp only [joinS, this]
    simp
theorem do_joinS (ys : List Sg) (h : ys.flatten.length ≤ line) (st : Store) : doBM .join (.pv (.str [])) [.pv (.lst (ys.map .str))] st = some (.ok (.pv (.str ys.flatten)) st) := by
  have e : (ys.map fun s : Sg => s.length).sum = ys.flatten.length := by rw [List.length_flatten]
  simp only [doBM, peek_pv, strsOf_map, join_nil]
  have h0 : (ys.map fun s : Sg => s.length).sum + ys.length * ([] : Sg).length ≤ line := by rw [e, List.length_nil, Nat.mul_zero, Nat.add_zero]; exact h
  rw [if_pos h0]
@[simp] theorem slc_tup (xs : List PV) (lo hi : Option Int) : doSlc (.tup xs) lo hi = some (.tup (cut xs lo hi)) := rfl
@[simp] theorem slc_lst (xs : List PV) (lo hi : Option Int) : doSlc (.lst xs) lo hi = some (.lst (cut xs lo hi)) := rfl
theorem slc_str {s : Sg} (h : s.length ≤ line) (lo hi : Option Int) : doSlc (.str s) lo hi = some (.str (cut s lo hi)) := by simp only [doSlc, if_pos h]
theorem cut1 {α : Type} (x : α) (xs : List α) : cut (x :: xs) (some 1) none = xs := by
  have := cut_from (x :: xs) (k := 1) (by simp)
  simpa using this
theorem sq_ref {st : Store} {r : Nat} {b : Bool} {L : List LV} (h : st[r]? = some (.lst b L)) : sq st (.ref r) = some L := by simp only [sq, h]
@[simp] theorem sq_pv (st : Store) (ps : List PV) : sq st (.pv (.lst ps)) = some (ps.map .pv) := rfl
theorem drop_more {α : Type} {t : List α} {k : Nat} {x r : List α} (h : t.drop k = x ++ r) : t.drop (k + x.length) = r := by
  have := congrArg (List.drop x.length) h
  rw [List.drop_drop, List.drop_left] at this
  exact this
theorem drop_le {α : Type} {t : List α} {k : Nat} {c : α} {r : List α} (h : t.drop k = c :: r) : k + 1 ≤ t.length := by
  have := congrArg List.length h
  rw [List.length_drop] at this
  simp at this
  omega
theorem drop_get {α : Type} {t : List α} {k : Nat} {c : α} {r : List α} (h : t.drop k = c :: r) : t[k]? = some c := by
  have := congrArg (fun l : List α => l[0]?) h
  simpa using this
/-! ### a live list of live lists, the last one ahead -/
section
variable {α : Type} (f : α → List LV)
def SCells (st : Store) : List Nat → List α → Prop
  | [], [] => True
  | r :: rs, h :: hs => st[r]? = some (.lst true (f h)) ∧ SCells st rs hs
  | _, _ => False
structure Stack (st : Store) (b : Nat) (rs : List Nat) (hs : List α) : Prop where
  top : st[b]? = some (.lst true (rs.reverse.map .ref))
  cells : SCells f st rs hs
  nd : (b :: rs).Nodup
variable {f}
theorem SCells.len {st : Store} : ∀ {rs : List Nat} {hs : List α}, SCells f st rs hs → rs.length = hs.length
  | [], [], _ => rfl
  | [], _ :: _, h => h.elim
  | _ :: _, [], h => h.elim
  | r :: rs, x :: hs, h => by simp [SCells.len h.2]
theorem SCells.keep {st st' : Store} : ∀ {rs : List Nat} {hs : List α}, (∀ r ∈ rs, st'[r]? = st[r]?) → SCells f st rs hs → SCells f st' rs hs
  | [], [], _, _ => trivial
  | [], _ :: _, _, h => h.elim
  | _ :: _, [], _, h => h.elim
  | r :: rs, x :: hs, k, h => ⟨by rw [k r (by simp)]; exact h.1, SCells.keep (fun q hq => k q (by simp [hq])) h.2⟩
theorem SCells.lt {st : Store} : ∀ {rs : List Nat} {hs : List α}, SCells f st rs hs → ∀ r ∈ rs, r < st.length
  | [], [], _, r, hr => by simp at hr
  | [], _ :: _, h, _, _ => h.elim
  | _ :: _, [], h, _, _ => h.elim
  | q :: rs, x :: hs, h, r, hr => by
    rcases List.mem_cons.mp hr with e | e
    · subst e
      exact (List.getElem?_eq_some_iff.mp h.1).1
    · exact SCells.lt h.2 r e
/-- one more -/
theorem Stack.open_ {st : Store} {b : Nat} {rs : List Nat} {hs : List α} (R : Stack f st b rs hs) (h : α) : Stack f ((st ++ [Cell.lst true (f h)]).set b (.lst true ((st.length :: rs).reverse.map .ref))) b (st.length :: rs) (h :: hs) := by
  have h0 : b < st.length := (List.getElem?_eq_some_iff.mp R.top).1
  have lt := R.cells.lt
  have nd := List.nodup_cons.mp R.nd
  refine ⟨?_, ⟨?_, SCells.keep (fun r hr => ?_) R.cells⟩, ?_⟩
  · rw [List.getElem?_set_self (by simp; omega)]
  · rw [List.getElem?_set_ne (by omega)]
    simp
  · have hne : r ≠ b := fun e => nd.1 (by rw [← e]; exact hr)
    rw [List.getElem?_set_ne (by omega), List.getElem?_append_left (lt r hr)]
  · refine List.nodup_cons.mpr ⟨?_, List.nodup_cons.mpr ⟨fun z => Nat.lt_irrefl _ (lt _ z), nd.2⟩⟩
    intro z
    rcases List.mem_cons.mp z with e | e
    · omega
    · exact nd.1 e
/-- the last one becomes another one -/
theorem Stack.put {st : Store} {b r : Nat} {rs : List Nat} {h : α} {hs : List α} (R : Stack f st b (r :: rs) (h :: hs)) (h' : α) : Stack f (st.set r (.lst true (f h'))) b (r :: rs) (h' :: hs) := by
  have lt := R.cells.lt
  have nd := List.nodup_cons.mp R.nd
  have nd2 := List.nodup_cons.mp nd.2
  refine ⟨?_, ⟨?_, SCells.keep (fun q hq => ?_) R.cells.2⟩, R.nd⟩
  · rw [List.getElem?_set_ne (fun e => nd.1 (by simp [e]))]
    exact R.top
  · rw [List.getElem?_set_self (lt r (by simp))]
  · exact List.getElem?_set_ne (fun e => nd2.1 (by rw [e]; exact hq))
/-- the last one is gone -/
theorem Stack.pop {st : Store} {b r : Nat} {rs : List Nat} {h : α} {hs : List α} (R : Stack f st b (r :: rs) (h :: hs)) : Stack f (st.set b (.lst true (rs.reverse.map .ref))) b rs hs := by
  have h0 : b < st.length := (List.getElem?_eq_some_iff.mp R.top).1
  have nd := List.nodup_cons.mp R.nd
  have nd2 := List.nodup_cons.mp nd.2
  refine ⟨List.getElem?_set_self h0, SCells.keep (fun q hq => ?_) R.cells.2, List.nodup_cons.mpr ⟨fun z => nd.1 (by simp [z]), nd2.2⟩⟩
  exact List.getElem?_set_ne (fun e => nd.1 (by rw [e]; simp [hq]))
/-- another cell changes -/
theorem Stack.other {st : Store} {b k : Nat} {rs : List Nat} {hs : List α} (R : Stack f st b rs hs) (hk : k ∉ b :: rs) (c : Cell) : Stack f (st.set k c) b rs hs := by
  refine ⟨?_, SCells.keep (fun q hq => ?_) R.cells, R.nd⟩
  · rw [List.getElem?_set_ne (fun e => hk (by simp [e]))]
    exact R.top
  · exact List.getElem?_set_ne (fun e => hk (by simp [e, hq]))
theorem Stack.getLast {st : Store} {b r : Nat} {rs : List Nat} {h : α} {hs : List α} (R : Stack f st b (r :: rs) (h :: hs)) : getI (.ref b) (.pv (.int (-1))) st = some (.ok (.ref r) st) := getI_ref R.top (by
  rw [List.reverse_cons, List.map_append]
  exact atI_last _ _)
theorem Stack.lenB {st : Store} {b : Nat} {rs : List Nat} {hs : List α} (R : Stack f st b rs hs) : lenL (.ref b) st = some hs.length := by
  have := lenL_ref R.top
  rw [List.length_map, List.length_reverse, R.cells.len] at this
  exact this
theorem Stack.lenH {st : Store} {b r : Nat} {rs : List Nat} {h : α} {hs : List α} (R : Stack f st b (r :: rs) (h :: hs)) : lenL (.ref r) st = some (f h).length := lenL_ref R.cells.1
theorem Stack.doPop {st : Store} {b r : Nat} {rs : List Nat} {h : α} {hs : List α} (R : Stack f st b (r :: rs) (h :: hs)) : doBM .pop0 (.ref b) [] st = some (.ok (.ref r) (st.set b (.lst true (rs.reverse.map .ref)))) := do_pop (by
  have := R.top
  rw [List.reverse_cons, List.map_append] at this
  exact this)
theorem Stack.doOpen {st : Store} {b : Nat} {rs : List Nat} {hs : List α} (R : Stack f st b rs hs) (hl : hs.length < line) (L : List LV) : doBM .append (.ref b) [.ref st.length] (st ++ [Cell.lst true L]) = some (.ok (.pv .non) ((st ++ [Cell.lst true L]).set b (.lst true ((st.length :: rs).reverse.map .ref)))) := by
  have h0 : b < st.length := (List.getElem?_eq_some_iff.mp R.top).1
  rw [do_append (L := rs.reverse.map .ref) (by rw [List.getElem?_append_left h0]; exact R.top) (by rw [List.length_map, List.length_reverse, R.cells.len]; exact hl)]
  simp
end
section
variable {S : Sem} {t : MT} {A E rest : List MS} {φ : Slots} {st st1 : Store}
theorem seq_one (r : Option FR) : (seqS (a := r) fun φ st => some (.nx φ st)) = r := by
  cases r with
  | none => rfl
  | some r => cases r <;> rfl
theorem exSs_app (A B : List MS) : ∀ (φ : Slots) (st : Store), exSs S (A ++ B) φ st = seqS (a := exSs S A φ st) (exSs S B) := by
  induction A with
  | nil => exact fun _ _ => rfl
  | cons s A ih =>
    intro φ st
    rw [List.cons_append, exSs_cons, exSs_cons]
    cases exS S s φ st with
    | none => rfl
    | some r => cases r <;> first | rfl | exact ih _ _
theorem exSs_one (s : MS) : exSs S [s] φ st = exS S s φ st := seq_one _
theorem exS_iff_t (h : evT S t φ st = some (.ok true st1)) : exS S (.iff t A E) φ st = exSs S A φ st1 := by
  simp only [exS_iff, h, Z.T.bf_ok, if_true]
theorem exS_iff_f (h : evT S t φ st = some (.ok false st1)) : exS S (.iff t A E) φ st = exSs S E φ st1 := by
  simp only [exS_iff, h, Z.T.bf_ok, Bool.false_eq_true, if_false]
theorem iff1_t (h : evT S t φ st = some (.ok true st1)) : exSs S [.iff t A E] φ st = exSs S A φ st1 := by rw [exSs_one, exS_iff_t h]
theorem iff1_f (h : evT S t φ st = some (.ok false st1)) : exSs S [.iff t A E] φ st = exSs S E φ st1 := by rw [exSs_one, exS_iff_f h]
end
/-- a walk that leaves the store alone -/
theorem lcWalk_pure {step : LV → Store → Option ERs} {n : Nat} {st : Store} {b : Bool} {ys : List LV} (h : st[n]? = some (.lst b ys)) (g : LV → List LV) (hs : ∀ x ∈ ys, step x st = some (.ok (g x) st)) : ∀ (f i : Nat), i ≤ ys.length → ys.length < f + i → lcWalk step n f i st = some (((ys.drop i).map g).flatten, st)
  | 0, i, hi, hf => by omega
  | f + 1, i, hi, hf => by
    unfold lcWalk
    rw [h]
    simp only
    cases hx : ys[i]? with
    | none =>
      rw [List.drop_of_length_le (List.getElem?_eq_none_iff.mp hx)]
      rfl
    | some x =>
      have hi : i < ys.length := (List.getElem?_eq_some_iff.mp hx).1
      have hm : x ∈ ys := List.mem_of_getElem? hx
      simp only [hs x hm, noX]
      rw [lcWalk_pure h g hs f (i + 1) hi (by omega), List.drop_eq_getElem_cons hi]
      have : ys[i] = x := (List.getElem?_eq_some_iff.mp hx).2
      rw [this]
      simp
end Z
end

section
namespace Z53
open Z
abbrev pw : PySem.Program := PySem.Challenge.pw_oncelinks_k53_whole_codes_as_numbers
def top (i : Nat) : PySem.Stmt := pw.main.body.getD i (.Pass ⟨0, 0, 0, 0⟩)
def cbody (s : PySem.Stmt) : List PySem.Stmt := match s with
  | .ClassDef _ _ _ b _ _ _ _ _ _ _ => b
  | _ => []
def inC (i j : Nat) : PySem.Stmt := (cbody (top i)).getD j (.Pass ⟨0, 0, 0, 0⟩)
/-- is_use -/
def m0 : MD := ⟨1, 1, [.ret (.isi .tuple (.var 0))]⟩
def q0 : DD := ⟨m0, ["code"], ⟨("is_use", none), "is_use", "is_use", L2.defArgs (top 7), L2.defBody (top 7), L2.defScope (top 7), [], []⟩⟩
/-- count_joiners -/
def m1 : MD := ⟨1, 1, [.iff (.val (.call 0 [.var 0])) [.ret (.bin .add (.call 1 [.idx (.var 0) (.lit (.int 0))]) (.call 1 [.idx (.var 0) (.lit (.int 1))]))] [], .ret (.lit (.int 1))]⟩
def q1 : DD := ⟨m1, ["code"], ⟨("count_joiners", none), "count_joiners", "count_joiners", L2.defArgs (top 8), L2.defBody (top 8), L2.defScope (top 8), [], []⟩⟩
/-- text_of_code -/
def m2 : MD := ⟨1, 1, [.iff (.val (.call 0 [.var 0])) [.ret (.bin .add (.bin .add (.bin .add (.lit (.str [40])) (.call 2 [.idx (.var 0) (.lit (.int 0))])) (.call 2 [.idx (.var 0) (.lit (.int 1))])) (.lit (.str [41])))] [], .ret (.var 0)]⟩
def q2 : DD := ⟨m2, ["code"], ⟨("text_of_code", none), "text_of_code", "text_of_code", L2.defArgs (top 9), L2.defBody (top 9), L2.defScope (top 9), [], []⟩⟩
/-- taken -/
def m3 : MD := ⟨3, 3, [.iff (.boolop false [.cmp .eq (.var 1) (.bi .len [.var 0]), .cmp .nin (.idx (.var 0) (.var 1)) (.var 2)]) [.raise 1 [.var 1]] [], .ret (.idx (.var 0) (.var 1))]⟩
def q3 : DD := ⟨m3, ["text", "at", "allowed"], ⟨("taken", none), "taken", "taken", L2.defArgs (top 10), L2.defBody (top 10), L2.defScope (top 10), [], []⟩⟩
/-- code_from -/
def m4 : MD := ⟨2, 6, [.iff (.cmp .ne (.call 3 [.var 0, .var 1, .lit (.str [40, 66, 67, 73])]) (.lit (.str [40]))) [.ret (.tup [.idx (.var 0) (.var 1), .bin .add (.var 1) (.lit (.int 1))])] [], .asg (.tp [.nm 2, .nm 3]) (.call 4 [.var 0, .bin .add (.var 1) (.lit (.int 1))]), .asg (.tp [.nm 4, .nm 5]) (.call 4 [.var 0, .var 3]), .ex (.call 3 [.var 0, .var 5, .lit (.str [41])]), .ret (.tup [.tup [.var 2, .var 4], .bin .add (.var 5) (.lit (.int 1))])]⟩
def q4 : DD := ⟨m4, ["text", "at", "f", "after", "x", "last"], ⟨("code_from", none), "code_from", "code_from", L2.defArgs (top 11), L2.defBody (top 11), L2.defScope (top 11), [], []⟩⟩
/-- code_of_text -/
def m5 : MD := ⟨1, 3, [.asg (.tp [.nm 1, .nm 2]) (.call 4 [.var 0, .lit (.int 0)]), .iff (.cmp .lt (.var 2) (.bi .len [.var 0])) [.raise 1 [.var 2]] [], .iff (.cmp .gt (.call 1 [.var 1]) (.glb 0)) [.raise 1 [.bi .len [.var 0]]] [], .ret (.var 1)]⟩
def q5 : DD := ⟨m5, ["text", "code", "after"], ⟨("code_of_text", none), "code_of_text", "code_of_text", L2.defArgs (top 12), L2.defBody (top 12), L2.defScope (top 12), [], []⟩⟩
/-- checked -/
def m6 : MD := ⟨1, 1, [.ret (.cat (.var 0) (.lst false [.bin .mod (.bi .sum [.var 0]) (.glb 2)]))]⟩
def q6 : DD := ⟨m6, ["numbers"], ⟨("checked", none), "checked", "checked", L2.defArgs (top 17), L2.defBody (top 17), L2.defScope (top 17), [], []⟩⟩
/-- code_numbers -/
def m7 : MD := ⟨1, 1, [.iff (.val (.call 0 [.var 0])) [.ret (.bin .add (.bin .add (.lst false [.lit (.int 0)]) (.call 7 [.idx (.var 0) (.lit (.int 0))])) (.call 7 [.idx (.var 0) (.lit (.int 1))]))] [], .ret (.lst false [.bin .add (.lit (.int 1)) (.tabX 0 [.var 0])])]⟩
def q7 : DD := ⟨m7, ["code"], ⟨("code_numbers", none), "code_numbers", "code_numbers", L2.defArgs (top 18), L2.defBody (top 18), L2.defScope (top 18), [], []⟩⟩
/-- bytes_of_code -/
def m8 : MD := ⟨1, 1, [.ret (.call 6 [.bin .add (.lst false [.glb 1]) (.call 7 [.var 0])])]⟩
def q8 : DD := ⟨m8, ["code"], ⟨("bytes_of_code", none), "bytes_of_code", "bytes_of_code", L2.defArgs (top 19), L2.defBody (top 19), L2.defScope (top 19), [], []⟩⟩
/-- code_of_bytes -/
def m9 : MD := ⟨1, 3, [.asg (.nm 1) (.new 0 21 [.var 0]), .ex (.mcall 0 22 (.var 1) [.glb 1, .glb 1]), .fset 0 (.var 1) 2 (.lit (.int 1)), .asg (.nm 2) (.mcall 0 25 (.var 1) []), .ex (.mcall 0 23 (.var 1) []), .ret (.var 2)]⟩
def q9 : DD := ⟨m9, ["numbers", "reader", "code"], ⟨("code_of_bytes", none), "code_of_bytes", "code_of_bytes", L2.defArgs (top 21), L2.defBody (top 21), L2.defScope (top 21), [], []⟩⟩
/-- _law_feed -/
def m10 : MD := ⟨1, 1, [.ret (.lst true [.bi .list [.var 0], .lit (.int 0), .lit (.int 0), .lit (.int 1)])]⟩
def q10 : DD := ⟨m10, ["script"], ⟨("_law_feed", none), "_law_feed", "_law_feed", L2.defArgs (top 23), L2.defBody (top 23), L2.defScope (top 23), [], []⟩⟩
/-- _law_draw -/
def m11 : MD := ⟨2, 5, [.iff (.boolop true [.cmp .eq (.idx (.var 0) (.lit (.int 2))) (.lit (.int 0)), .cmp .lt (.idx (.var 0) (.lit (.int 1))) (.bi .len [.idx (.var 0) (.lit (.int 0))])]) [.asg (.nm 3) (.bi .abs [.bi .int [.idx (.idx (.var 0) (.lit (.int 0))) (.idx (.var 0) (.lit (.int 1)))]]), .augI (.var 0) (.lit (.int 1)) .add (.lit (.int 1)), .iff (.cmp .ge (.var 3) (.bin .pow (.lit (.int 10)) (.lit (.int 18)))) [.asgI (.var 0) (.lit (.int 2)) (.var 3)] [.asgI (.var 0) (.lit (.int 3)) (.bin .mod (.bi .int [.bin .add (.bin .add (.bin .mul (.idx (.var 0) (.lit (.int 3))) (.lit (.int 48271))) (.bin .mul (.var 3) (.lit (.int 69621)))) (.idx (.var 0) (.lit (.int 1)))]) (.lit (.int 2147483647)))]] [], .iff (.cmp .gt (.idx (.var 0) (.lit (.int 2))) (.lit (.int 0))) [.asg (.nm 4) (.bin .mod (.bi .int [.idx (.var 0) (.lit (.int 2))]) (.var 1)), .asgI (.var 0) (.lit (.int 2)) (.bin .fdiv (.idx (.var 0) (.lit (.int 2))) (.var 1)), .ret (.var 4)] [], .asgI (.var 0) (.lit (.int 3)) (.bin .mod (.bi .int [.bin .add (.bin .mul (.idx (.var 0) (.lit (.int 3))) (.lit (.int 16807))) (.lit (.int 12345))]) (.lit (.int 2147483647))), .asg (.nm 2) (.bin .mod (.bi .int [.bin .add (.bin .mul (.idx (.var 0) (.lit (.int 3))) (.idx (.var 0) (.lit (.int 3)))) (.idx (.var 0) (.lit (.int 3)))]) (.lit (.int 2147483629))), .ret (.bin .mod (.bin .fdiv (.var 2) (.lit (.int 11))) (.var 1))]⟩
def q11 : DD := ⟨m11, ["feed", "many", "mixed", "cell", "told"], ⟨("_law_draw", none), "_law_draw", "_law_draw", L2.defArgs (top 24), L2.defBody (top 24), L2.defScope (top 24), [], []⟩⟩
/-- _law_is_whole -/
def m12 : MD := ⟨1, 1, [.ret (.boolop true [.isi .int (.var 0), .not (.isi .bool (.var 0))])]⟩
def q12 : DD := ⟨m12, ["x"], ⟨("_law_is_whole", none), "_law_is_whole", "_law_is_whole", L2.defArgs (top 25), L2.defBody (top 25), L2.defScope (top 25), [], []⟩⟩
/-- _law_some_code -/
def m13 : MD := ⟨2, 6, [.asg (.nm 2) (.lc false (.idx (.lst false [.lit (.str [66]), .lit (.str [67]), .lit (.str [73]), .lit (.str [66])]) (.call 11 [.var 0, .lit (.int 4)])) (.nm 4) .range [.bin .add (.lit (.int 1)) (.call 11 [.var 0, .var 1])] [] [4]), .for_ (.nm 3) .range [.var 1] [.iff (.cmp .gt (.bi .len [.var 2]) (.lit (.int 1))) [.asg (.nm 5) (.call 11 [.var 0, .bin .sub (.bi .len [.var 2]) (.lit (.int 1))]), .iff (.cmp .eq (.call 11 [.var 0, .lit (.int 2)]) (.lit (.int 0))) [.asg (.nm 5) (.lit (.int 0))] [], .asg (.nm 2) (.bin .add (.bin .add (.slc (.var 2) false (.lit .non) true (.var 5)) (.lst false [.tup [.idx (.var 2) (.var 5), .idx (.var 2) (.bin .add (.var 5) (.lit (.int 1)))]])) (.slc (.var 2) true (.bin .add (.var 5) (.lit (.int 2))) false (.lit .non)))] []], .ret (.idx (.var 2) (.lit (.int 0)))]⟩
def q13 : DD := ⟨m13, ["feed", "most", "pieces", "step", "k", "at"], ⟨("_law_some_code", none), "_law_some_code", "_law_some_code", L2.defArgs (top 26), L2.defBody (top 26), L2.defScope (top 26), [], []⟩⟩
/-- _law_code_numbers -/
def m14 : MD := ⟨1, 1, [.iff (.val (.isi .str (.var 0))) [.ret (.lst false [.bm .sindex (.lit (.str [32, 66, 67, 73])) [.var 0]])] [], .ret (.bin .add (.bin .add (.lst false [.lit (.int 0)]) (.call 14 [.idx (.var 0) (.lit (.int 0))])) (.call 14 [.idx (.var 0) (.lit (.int 1))]))]⟩
def q14 : DD := ⟨m14, ["code"], ⟨("_law_code_numbers", none), "_law_code_numbers", "_law_code_numbers", L2.defArgs (top 27), L2.defBody (top 27), L2.defScope (top 27), [], []⟩⟩
/-- _law_told -/
def m15 : MD := ⟨1, 4, [.asg (.nm 1) (.bi .list [.var 0]), .tryE [.asg (.nm 2) (.call 9 [.var 1])] 2 (some 3) [.iff (.boolop false [.not (.val (.xisi 3 0)), .val (.xisi 3 1), .not (.val (.call 12 [.xfld 3 0])), .cmp .ne (.var 1) (.var 0)]) [.ret (.tup [.lit (.str [101, 114, 114, 111, 114]), .lit (.int 0)])] [], .ret (.tup [.lit (.str [98, 97, 100]), .xfld 3 0])], .iff (.cmp .ne (.var 1) (.var 0)) [.ret (.tup [.lit (.str [101, 114, 114, 111, 114]), .lit (.int 1)])] [], .ret (.tup [.lit (.str [99, 111, 100, 101]), .var 2])]⟩
def q15 : DD := ⟨m15, ["numbers", "handed", "told", "e"], ⟨("_law_told", none), "_law_told", "_law_told", L2.defArgs (top 28), L2.defBody (top 28), L2.defScope (top 28), [], []⟩⟩
/-- _law_due -/
def m16 : MD := ⟨1, 9, [.iff (.boolop false [.cmp .eq (.bi .len [.var 0]) (.lit (.int 0)), .cmp .ne (.idx (.var 0) (.lit (.int 0))) (.lit (.int 79))]) [.ret (.tup [.lit (.str [98, 97, 100]), .lit (.int 0)])] [], .asg (.nm 1) (.lit (.int 1)), .asg (.nm 2) (.lit (.int 1)), .asg (.nm 3) (.lst true []), .asg (.nm 4) (.lit (.int 1)), .for_ (.nm 5) .range [.lit (.int 400)] [.iff (.cmp .gt (.var 1) (.lit (.int 0))) [.iff (.boolop false [.cmp .eq (.var 4) (.bi .len [.var 0]), .not (.chain .le .le (.lit (.int 0)) (.idx (.var 0) (.var 4)) (.lit (.int 3)))]) [.ret (.tup [.lit (.str [98, 97, 100]), .var 4])] [], .asg (.nm 6) (.lit (.non)), .iff (.cmp .eq (.idx (.var 0) (.var 4)) (.lit (.int 0))) [.aug 1 .add (.lit (.int 1)), .aug 2 .add (.lit (.int 1)), .iff (.cmp .gt (.var 2) (.lit (.int 120))) [.ret (.tup [.lit (.str [98, 97, 100]), .var 4])] [], .ex (.bm .append (.var 3) [.lst true []])] [.asg (.nm 6) (.idx (.lit (.str [45, 66, 67, 73])) (.idx (.var 0) (.var 4))), .aug 1 .sub (.lit (.int 1))], .for_ (.nm 7) .range [.bi .len [.var 3]] [.iff (.boolop true [.isn true (.var 6), .cmp .eq (.bi .len [.idx (.var 3) (.neg (.lit (.int 1)))]) (.lit (.int 1))]) [.asg (.nm 6) (.tup [.idx (.bm .pop0 (.var 3) []) (.lit (.int 0)), .var 6])] []], .iff (.boolop true [.isn true (.var 6), .cmp .gt (.bi .len [.var 3]) (.lit (.int 0))]) [.ex (.bm .append (.idx (.var 3) (.neg (.lit (.int 1)))) [.var 6]), .asg (.nm 6) (.lit (.non))] [], .aug 4 .add (.lit (.int 1)), .iff (.cmp .eq (.var 1) (.lit (.int 0))) [.asg (.nm 8) (.var 6)] []] []], .iff (.boolop false [.cmp .eq (.var 4) (.bi .len [.var 0]), .cmp .ne (.idx (.var 0) (.var 4)) (.bin .mod (.bi .int [.bi .sum [.slc (.var 0) false (.lit .non) true (.var 4)]]) (.lit (.int 251)))]) [.ret (.tup [.lit (.str [98, 97, 100]), .var 4])] [], .iff (.cmp .lt (.bin .add (.var 4) (.lit (.int 1))) (.bi .len [.var 0])) [.ret (.tup [.lit (.str [98, 97, 100]), .bin .add (.var 4) (.lit (.int 1))])] [], .ret (.tup [.lit (.str [99, 111, 100, 101]), .var 8])]⟩
def q16 : DD := ⟨m16, ["numbers", "wait", "joiners", "heaps", "at", "step", "own", "k", "code"], ⟨("_law_due", none), "_law_due", "_law_due", L2.defArgs (top 29), L2.defBody (top 29), L2.defScope (top 29), [], []⟩⟩
/-- _law_whole -/
def m17 : MD := ⟨1, 2, [.asg (.nm 1) (.bin .add (.lst false [.lit (.int 79)]) (.call 14 [.var 0])), .ret (.bin .add (.var 1) (.lst false [.bin .mod (.bi .int [.bi .sum [.var 1]]) (.lit (.int 251))]))]⟩
def q17 : DD := ⟨m17, ["code", "numbers"], ⟨("_law_whole", none), "_law_whole", "_law_whole", L2.defArgs (top 30), L2.defBody (top 30), L2.defScope (top 30), [], []⟩⟩
/-- _law_long -/
def m18 : MD := ⟨2, 5, [.asg (.nm 2) (.lit (.str [73])), .for_ (.nm 3) .range [.bin .sub (.var 1) (.lit (.int 1))] [.asg (.nm 4) (.idx (.lst false [.lit (.str [66]), .lit (.str [67]), .lit (.str [73])]) (.call 11 [.var 0, .lit (.int 3)])), .asg (.nm 2) (.idx (.lst false [.tup [.var 2, .var 4], .tup [.var 4, .var 2]]) (.call 11 [.var 0, .lit (.int 2)]))], .ret (.var 2)]⟩
def q18 : DD := ⟨m18, ["feed", "many", "code", "k", "own"], ⟨("_law_long", none), "_law_long", "_law_long", L2.defArgs (top 31), L2.defBody (top 31), L2.defScope (top 31), [], []⟩⟩
/-- _law_bent -/
def m19 : MD := ⟨2, 6, [.asg (.nm 2) (.lst false [.bin .add (.var 1) (.lst false [.lit (.int 0)]), .slc (.var 1) false (.lit .non) true (.neg (.lit (.int 1))), .slc (.var 1) true (.lit (.int 1)) false (.lit .non), .lst false [], .bin .add (.var 1) (.var 1)]), .for_ (.nm 3) .range [.lit (.int 5)] [.asg (.nm 4) (.call 11 [.var 0, .bi .len [.var 1]]), .asg (.nm 5) (.idx (.lst false [.lit (.int 0), .lit (.int 1), .lit (.int 2), .lit (.int 3), .lit (.int 4), .neg (.lit (.int 1)), .lit (.int 79), .bin .pow (.lit (.int 10)) (.lit (.int 30))]) (.call 11 [.var 0, .lit (.int 8)])), .asg (.nm 2) (.bin .add (.var 2) (.lst false [.bin .add (.bin .add (.slc (.var 1) false (.lit .non) true (.var 4)) (.lst false [.var 5])) (.slc (.var 1) true (.bin .add (.var 4) (.lit (.int 1))) false (.lit .non)), .bin .add (.slc (.var 1) false (.lit .non) true (.var 4)) (.slc (.var 1) true (.bin .add (.var 4) (.lit (.int 1))) false (.lit .non)), .bin .add (.bin .add (.slc (.var 1) false (.lit .non) true (.var 4)) (.lst false [.var 5])) (.slc (.var 1) true (.var 4) false (.lit .non)), .slc (.var 1) false (.lit .non) true (.var 4)]))], .ret (.var 2)]⟩
def q19 : DD := ⟨m19, ["feed", "numbers", "found", "step", "at", "x"], ⟨("_law_bent", none), "_law_bent", "_law_bent", L2.defArgs (top 32), L2.defBody (top 32), L2.defScope (top 32), [], []⟩⟩
/-- law -/
def m20 : MD := ⟨1, 11, [.asg (.nm 1) (.call 10 [.var 0]), .for_ (.nm 2) .range [.lit (.int 4)] [.asg (.nm 5) (.call 13 [.var 1, .lit (.int 12)]), .asg (.nm 6) (.call 17 [.var 5]), .asg (.nm 7) (.call 8 [.var 5]), .iff (.boolop false [.not (.val (.isi .list (.var 7))), .cmp .ne (.var 7) (.var 6), .cmp .gt (.bi .len [.lcW false (.var 10) (.nm 10) (.var 7) [.not (.val (.call 12 [.var 10]))] [10]]) (.lit (.int 0)), .cmp .ne (.call 15 [.var 7]) (.tup [.lit (.str [99, 111, 100, 101]), .var 5])]) [.ret (.lit (.bl false))] [], .iff (.boolop false [.cmp .ne (.bi .repr [.call 15 [.var 7]]) (.bi .repr [.tup [.lit (.str [99, 111, 100, 101]), .var 5]]), .cmp .ne (.call 9 [.frz (.call 8 [.call 5 [.call 2 [.var 5]]])]) (.var 5)]) [.ret (.lit (.bl false))] [], .ex (.bm .append (.var 7) [.lit (.int 0)]), .iff (.cmp .ne (.call 8 [.var 5]) (.var 6)) [.ret (.lit (.bl false))] [], .for_ (.nm 8) .val [.call 19 [.var 1, .var 6]] [.for_ (.nm 9) .val [.lst false [.var 8, .bin .add (.slc (.var 8) false (.lit .non) true (.neg (.lit (.int 1)))) (.lst false [.bin .mod (.bi .int [.bi .sum [.slc (.var 8) false (.lit .non) true (.neg (.lit (.int 1)))]]) (.lit (.int 251))])]] [.iff (.cmp .ne (.call 15 [.var 9]) (.call 16 [.var 9])) [.ret (.lit (.bl false))] []]]], .asg (.nm 3) (.bin .add (.lit (.int 119)) (.call 11 [.var 1, .lit (.int 4)])), .asg (.nm 4) (.call 17 [.call 18 [.var 1, .var 3]]), .iff (.boolop false [.cmp .ne (.call 15 [.var 4]) (.call 16 [.var 4]), .cmp .ne (.cmp .eq (.idx (.call 15 [.var 4]) (.lit (.int 0))) (.lit (.str [98, 97, 100]))) (.cmp .gt (.var 3) (.lit (.int 120)))]) [.ret (.lit (.bl false))] [], .iff (.boolop false [.cmp .ne (.call 8 [.tup [.tup [.lit (.str [66]), .lit (.str [67])], .lit (.str [73])]]) (.lst false [.lit (.int 79), .lit (.int 0), .lit (.int 0), .lit (.int 1), .lit (.int 2), .lit (.int 3), .lit (.int 85)]), .cmp .ne (.call 15 [.lst false [.lit (.int 79), .lit (.int 1), .lit (.int 80)]]) (.tup [.lit (.str [99, 111, 100, 101]), .lit (.str [66])]), .cmp .ne (.call 15 [.lst false [.lit (.int 79), .lit (.int 0), .lit (.int 1)]]) (.tup [.lit (.str [98, 97, 100]), .lit (.int 3)])]) [.ret (.lit (.bl false))] [], .ret (.boolop true [.cmp .eq (.call 15 [.lst false [.lit (.int 79), .lit (.int 1), .lit (.int 81)]]) (.tup [.lit (.str [98, 97, 100]), .lit (.int 2)]), .cmp .eq (.call 15 [.lst false [.lit (.int 78), .lit (.int 1), .lit (.int 79)]]) (.tup [.lit (.str [98, 97, 100]), .lit (.int 0)]), .cmp .eq (.call 15 [.lst false [.lit (.int 79), .lit (.int 4)]]) (.tup [.lit (.str [98, 97, 100]), .lit (.int 1)]), .cmp .eq (.call 15 [.lst false [.lit (.int 79), .lit (.int 1), .lit (.int 80), .lit (.int 0)]]) (.tup [.lit (.str [98, 97, 100]), .lit (.int 3)])])]⟩
def q20 : DD := ⟨m20, ["script", "feed", "turn", "many", "numbers", "code", "due", "told", "bent", "paper", "x"], ⟨("law", none), "law", "law", L2.defArgs (top 33), L2.defBody (top 33), L2.defScope (top 33), [], []⟩⟩
/-- Reader.__init__ -/
def m21 : MD := ⟨2, 2, [.fset 0 (.var 0) 1 (.var 1), .fset 0 (.var 0) 0 (.lit (.int 0)), .fset 0 (.var 0) 2 (.lit (.int 0))]⟩
def q21 : DD := ⟨m21, ["self", "numbers"], ⟨("Reader", some "__init__"), "__init__", "Reader.__init__", L2.defArgs (inC 20 0), L2.defBody (inC 20 0), L2.defScope (inC 20 0), [], []⟩⟩
/-- Reader.number -/
def m22 : MD := ⟨3, 3, [.iff (.boolop false [.cmp .eq (.fld 0 (.var 0) 0) (.bi .len [.fld 0 (.var 0) 1]), .not (.chain .le .le (.var 1) (.idx (.fld 0 (.var 0) 1) (.fld 0 (.var 0) 0)) (.var 2))]) [.raise 2 [.fld 0 (.var 0) 0]] [], .faug 0 (.var 0) 0 .add (.lit (.int 1)), .ret (.idx (.fld 0 (.var 0) 1) (.bin .sub (.fld 0 (.var 0) 0) (.lit (.int 1))))]⟩
def q22 : DD := ⟨m22, ["self", "least", "most"], ⟨("Reader", some "number"), "number", "Reader.number", L2.defArgs (inC 20 1), L2.defBody (inC 20 1), L2.defScope (inC 20 1), [], []⟩⟩
/-- Reader.check -/
def m23 : MD := ⟨1, 2, [.asg (.nm 1) (.bin .mod (.bi .sum [.slc (.fld 0 (.var 0) 1) false (.lit .non) true (.fld 0 (.var 0) 0)]) (.glb 2)), .ex (.mcall 0 22 (.var 0) [.var 1, .var 1]), .iff (.cmp .lt (.fld 0 (.var 0) 0) (.bi .len [.fld 0 (.var 0) 1])) [.raise 2 [.fld 0 (.var 0) 0]] []]⟩
def q23 : DD := ⟨m23, ["self", "due"], ⟨("Reader", some "check"), "check", "Reader.check", L2.defArgs (inC 20 2), L2.defBody (inC 20 2), L2.defScope (inC 20 2), [], []⟩⟩
/-- Reader.part -/
def m24 : MD := ⟨2, 2, [.faug 0 (.var 0) 2 .add (.lit (.int 1)), .iff (.cmp .gt (.fld 0 (.var 0) 2) (.var 1)) [.raise 2 [.bin .sub (.fld 0 (.var 0) 0) (.lit (.int 1))]] []]⟩
def q24 : DD := ⟨m24, ["self", "most"], ⟨("Reader", some "part"), "part", "Reader.part", L2.defArgs (inC 20 3), L2.defBody (inC 20 3), L2.defScope (inC 20 3), [], []⟩⟩
/-- Reader.code -/
def m25 : MD := ⟨1, 3, [.asg (.nm 1) (.mcall 0 22 (.var 0) [.lit (.int 0), .tabL 0]), .iff (.cmp .gt (.var 1) (.lit (.int 0))) [.ret (.tabI 0 (.bin .sub (.var 1) (.lit (.int 1))))] [], .ex (.mcall 0 24 (.var 0) [.glb 0]), .asg (.nm 2) (.mcall 0 25 (.var 0) []), .ret (.tup [.var 2, .mcall 0 25 (.var 0) []])]⟩
def q25 : DD := ⟨m25, ["self", "number", "f"], ⟨("Reader", some "code"), "code", "Reader.code", L2.defArgs (inC 20 4), L2.defBody (inC 20 4), L2.defScope (inC 20 4), [], []⟩⟩
def txt : Txt := {
  defs := [q0, q1, q2, q3, q4, q5, q6, q7, q8, q9, q10, q11, q12, q13, q14, q15, q16, q17, q18, q19, q20, q21, q22, q23, q24, q25]
  consts := [("MOST_JOINERS", .int 120), ("CODE_MARK", .int 79), ("MODULUS", .int 251)]
  fnames := ["at", "numbers", "parts"]
  errs := [⟨"OnceError", 0, [], none⟩,
    ⟨"BadText", 1, [(0, 0)], some (["self", "at"], ⟨("BadText", some "__init__"), "__init__", "BadText.__init__", L2.defArgs (inC 3 0), L2.defBody (inC 3 0), L2.defScope (inC 3 0), [], []⟩)⟩,
    ⟨"BadBytes", 1, [(0, 0)], some (["self", "at"], ⟨("BadBytes", some "__init__"), "__init__", "BadBytes.__init__", L2.defArgs (inC 4 0), L2.defBody (inC 4 0), L2.defScope (inC 4 0), [], []⟩)⟩]
  subs := [[true, false, false], [true, true, false], [true, false, true]]
  hots := [12]
  cls := [⟨"Reader", [1, 0, 2], [("__init__", 21, 2), ("number", 22, 3), ("check", 23, 1), ("part", 24, 2), ("code", 25, 1)]⟩]
  dtabs := []
  tabs := [("JOINERS", [[66], [67], [73]])] }
def shr : Nat → Bool := fun i => i == 6 || i == 8 || i == 10
-- loose: ["_wall", "OnceError", "BadText", "BadBytes", "is_use", "count_joiners", "text_of_code", "taken", "code_from", "code_of_text", "checked", "code_numbers", "bytes_of_code", "Reader", "code_of_bytes", "_law_feed", "_law_draw", "_law_is_whole", "_law_some_code", "_law_code_numbers", "_law_told", "_law_due", "_law_whole", "_law_long", "_law_bent", "law"]

theorem ok : txt.ok = true := by decide +kernel
end Z53
end

section
namespace Z53
open Z
abbrev RW := PySem.Challenge.rw_oncelinks_k53_whole_codes_as_numbers
abbrev R : PySem.W.OpenRow := PySem.W.OpenLaw.row RW
abbrev hk : PySem.W.Hook := hookZ 6 txt.fa txt.fn txt.ck txt.dts
def ob (s : PySem.W.SharedT) : AlZ := obsZG 6 txt.fa txt.fn txt.ck txt.dts (HandSHeadRun.getT s)
theorem ob_eq (s : PySem.W.SharedT) : ob s = hk.obs s.abs := obsZG_eq (HandSHeadRun.getT_eq s)
def loose : List PySem.Str := [("_wall" : PySem.Str), ("OnceError" : PySem.Str), ("BadText" : PySem.Str), ("BadBytes" : PySem.Str), ("MOST_JOINERS" : PySem.Str), ("is_use" : PySem.Str), ("count_joiners" : PySem.Str), ("text_of_code" : PySem.Str), ("taken" : PySem.Str), ("code_from" : PySem.Str), ("code_of_text" : PySem.Str), ("CODE_MARK" : PySem.Str), ("MODULUS" : PySem.Str), ("JOINERS" : PySem.Str), ("checked" : PySem.Str), ("code_numbers" : PySem.Str), ("bytes_of_code" : PySem.Str), ("Reader" : PySem.Str), ("code_of_bytes" : PySem.Str), ("_law_feed" : PySem.Str), ("_law_draw" : PySem.Str), ("_law_is_whole" : PySem.Str), ("_law_some_code" : PySem.Str), ("_law_code_numbers" : PySem.Str), ("_law_told" : PySem.Str), ("_law_due" : PySem.Str), ("_law_whole" : PySem.Str), ("_law_long" : PySem.Str), ("_law_bent" : PySem.Str)]
theorem run (w : PySem.World) : HandSHeadRun.RunEq R (PySem.W.view R.prog [33]) hk ob 4000 loose w := by
  refine PySem.W.byRow2 "special-get-raises" (P := fun w => HandSHeadRun.RunEq R (PySem.W.view R.prog [33]) hk ob 4000 loose w) (fun w os => ?_) (fun w os => ?_) w
  · kernel_rfl
  · kernel_rfl
end Z53
end

section
namespace Z53
open Z
abbrev Pr := txt.prog shr 1000
/-! ### codes -/
inductive Cd where
  | leaf (c : Nat)
  | node (a b : Cd)
def Cd.tree : Cd → PV
  | .leaf c => .str [c]
  | .node a b => .tup [a.tree, b.tree]
def Cd.text : Cd → Sg
  | .leaf c => [c]
  | .node a b => 40 :: (a.text ++ (b.text ++ [41]))
def Cd.dep : Cd → Nat
  | .leaf _ => 0
  | .node a b => 1 + max a.dep b.dep
def Cd.many : Cd → Nat
  | .leaf _ => 1
  | .node a b => a.many + b.many
def lf (c : Nat) : Prop := c = 66 ∨ c = 67 ∨ c = 73
instance (c : Nat) : Decidable (lf c) := by unfold lf; infer_instance
def Cd.good : Cd → Prop
  | .leaf c => lf c
  | .node a b => a.good ∧ b.good
theorem Cd.eqOk : ∀ c : Cd, Z.eqOk c.tree = true
  | .leaf c => rfl
  | .node a b => by simp [Cd.tree, Z.eqOk, Z.eqOks, a.eqOk, b.eqOk]
theorem Cd.depT : ∀ c : Cd, Z.dep c.tree = c.dep
  | .leaf c => rfl
  | .node a b => by simp [Cd.tree, Z.dep, Z.deps, Cd.dep, a.depT, b.depT]
theorem Cd.dep_many : ∀ c : Cd, c.dep < c.many
  | .leaf _ => by simp [Cd.dep, Cd.many]
  | .node a b => by
    have := a.dep_many
    have := b.dep_many
    simp only [Cd.dep, Cd.many]
    omega
theorem Cd.text_len : ∀ c : Cd, c.text.length + 2 = 3 * c.many
  | .leaf _ => rfl
  | .node a b => by
    have := a.text_len
    have := b.text_len
    simp only [Cd.text, Cd.many, List.length_cons, List.length_append, List.length_nil]
    omega
/-! ### what the program's defs do -/
section
variable {n : Nat} {st : Store}
@[simp] theorem use_leaf (c : Nat) : (Pr.sem (n + 1)).call 0 [.pv (.str [c])] st = some (.ok (.pv (.bl false)) st) := call1 (st1 := []) rfl rfl
@[simp] theorem use_node (a b : PV) : (Pr.sem (n + 1)).call 0 [.pv (.tup [a, b])] st = some (.ok (.pv (.bl true)) st) := call1 (st1 := []) rfl rfl
end
theorem hdraw : Pr.defs[11]? = some drawMD := rfl
theorem split_at {α : Type} {cs : List α} {k : Nat} (h : k + 1 < cs.length) : ∃ l a b r, cs = l ++ a :: b :: r ∧ l.length = k := by
  refine ⟨cs.take k, cs[k], cs[k + 1], cs.drop (k + 2), ?_, by rw [List.length_take]; omega⟩
  rw [← List.drop_eq_getElem_cons, ← List.drop_eq_getElem_cons, List.take_append_drop]
def total (cs : List Cd) : Nat := (cs.map Cd.many).sum
def allGood (cs : List Cd) : Prop := ∀ c ∈ cs, c.good
/-- two pieces become one -/
theorem join_two {cs : List Cd} {k : Nat} (h : k + 1 < cs.length) (hl : cs.length ≤ 100) : ∃ l a b r, cs = l ++ a :: b :: r ∧ cut (cs.map Cd.tree) none (some (k : Int)) = l.map Cd.tree ∧ cut (cs.map Cd.tree) (some ((k : Int) + 2)) none = r.map Cd.tree ∧
    atI (cs.map Cd.tree) (k : Int) = some a.tree ∧ atI (cs.map Cd.tree) ((k : Int) + 1) = some b.tree ∧ doBin .add (.lst (l.map Cd.tree)) (.lst [.tup [a.tree, b.tree]]) = some (.lst (l.map Cd.tree ++ [.tup [a.tree, b.tree]])) ∧
    doBin .add (.lst (l.map Cd.tree ++ [.tup [a.tree, b.tree]])) (.lst (r.map Cd.tree)) = some (.lst ((l ++ Cd.node a b :: r).map Cd.tree)) := by
  obtain ⟨l, a, b, r, e, hk⟩ := split_at h
  refine ⟨l, a, b, r, e, ?_⟩
  have hlen : (cs.map Cd.tree).length = l.length + (r.length + 2) := by rw [e]; simp
  have hlc : cs.length = l.length + (r.length + 2) := by rw [e]; simp
  have c1 : cut (cs.map Cd.tree) none (some (k : Int)) = l.map Cd.tree := by
    rw [cut_to _ (by rw [hlen]; omega), e, List.map_append, ← hk]
    simp
  have kk : (k : Int) + 2 = ((k + 2 : Nat) : Int) := by push_cast; rfl
  have k1 : (k : Int) + 1 = ((k + 1 : Nat) : Int) := by push_cast; rfl
  have c2 : cut (cs.map Cd.tree) (some ((k : Int) + 2)) none = r.map Cd.tree := by
    rw [kk, cut_from _ (by rw [hlen]; omega), e, ← hk]
    simp [List.drop_append]
  have i0 : atI (cs.map Cd.tree) (k : Int) = some a.tree := by
    rw [atI_nat (by rw [hlen]; omega), e, ← hk]
    simp
  have i1 : atI (cs.map Cd.tree) ((k : Int) + 1) = some b.tree := by
    rw [k1, atI_nat (by rw [hlen]; omega), e, ← hk]
    simp
  have hline : line = 16777216 := rfl
  have j1 : doBin .add (.lst (l.map Cd.tree)) (.lst [.tup [a.tree, b.tree]]) = some (.lst (l.map Cd.tree ++ [.tup [a.tree, b.tree]])) := cat_lst (by simp; omega)
  have j2 : doBin .add (.lst (l.map Cd.tree ++ [.tup [a.tree, b.tree]])) (.lst (r.map Cd.tree)) = some (.lst (l.map Cd.tree ++ [.tup [a.tree, b.tree]] ++ r.map Cd.tree)) := cat_lst (by simp; omega)
  refine ⟨c1, c2, i0, i1, j1, ?_⟩
  rw [j2]
  simp [Cd.tree]
/-- nothing but the feed has changed -/
def Lk (s0 st : Store) : Prop := HasF st ∧ st.length = s0.length ∧ ∀ r, r ≠ 0 → st[r]? = s0[r]?
theorem Lk.refl {st : Store} (h : HasF st) : Lk st st := ⟨h, rfl, fun _ _ => rfl⟩
theorem Lk.trans {a b c : Store} (h : Lk a b) (k : Lk b c) : Lk a c := ⟨k.1, k.2.1.trans h.2.1, fun r hr => (k.2.2 r hr).trans (h.2.2 r hr)⟩
theorem lk_draw {P : Prog} {f n : Nat} (hd : P.defs[f]? = some drawMD) {s0 st : Store} (h : Lk s0 st) {m : Int} (h1 : 0 < m) (h2 : m < 1073741824) : ∃ (k : Nat) (st' : Store), (P.sem (n + 1)).call f [.ref 0, .pv (.int m)] st = some (.ok (.pv (.int (k : Int))) st') ∧ (k : Int) < m ∧ Lk s0 st' := by
  obtain ⟨k, st', e, hk, hf, hl, hr⟩ := hasF_draw' (n := n) hd h.1 h1 h2
  exact ⟨k, st', e, hk, hf, hl.trans h.2.1, fun r q => (hr r q).trans (h.2.2 r q)⟩
theorem call_lk {P : Prog} {n f : Nat} {vs : List LV} {v : LV} {st st1 : Store} (e : P.cal n f (.ref 0 :: vs) st = some (.ok v st1)) (h : Lk st st1) : (P.sem n).call f (.ref 0 :: vs) st = some (.ok v st1) := call_len rfl e h.2.1
theorem some_code {n : Nat} {st : Store} {M : Nat} (h0 : 0 < M) (hM : M ≤ 100) (h : HasF st) : ∃ c st', (Pr.sem (n + 2)).call 13 [.ref 0, .pv (.int (M : Nat))] st = some (.ok (.pv (Cd.tree c)) st') ∧ Lk st st' ∧ c.good ∧ c.many ≤ M := by
  suffices H : ∃ c st', Pr.cal (n + 2) 13 [.ref 0, .pv (.int (M : Nat))] st = some (.ok (.pv (Cd.tree c)) st') ∧ Lk st st' ∧ c.good ∧ c.many ≤ M by
    obtain ⟨c, st', e, f, g⟩ := H
    exact ⟨c, st', call_lk e f, f, g⟩
  rw [cal_eq Pr (n + 1) 13 m13 _ _ rfl rfl]
  obtain ⟨s0, hs0⟩ : ∃ s0, s0 = st := ⟨st, rfl⟩
  have h : Lk s0 st := by rw [hs0]; exact Lk.refl h
  have dr := fun {st : Store} (h : Lk s0 st) {m : Int} (h1 : 0 < m) (h2 : m < 1073741824) => lk_draw (n := n) hdraw h h1 h2
  generalize Pr.sem (n + 1) = S at dr ⊢
  -- the leaves
  obtain ⟨k, st1, e1, hk, f1⟩ := dr h (m := (M : Nat)) (by omega) (by omega)
  have leaf : ∀ x ∈ (upto 0 (k + 1)).map PV.int, ∀ st, Lk s0 st → ∃ v st', lcStep S (.idx (.lst false [.lit (.str [66]), .lit (.str [67]), .lit (.str [73]), .lit (.str [66])]) (.call 11 [.var 0, .lit (.int 4)])) (.nm 4) [] [4] [some (.ref 0), some (.pv (.int (M : Nat))), none, none, none, none] x st = some (.ok [v] st') ∧ Lk s0 st' ∧ ∃ c, v = .pv (Cd.tree (.leaf c)) ∧ lf c := by
    intro x hx st hf
    obtain ⟨j, st2, e2, hj, f2⟩ := dr hf (m := 4) (by decide) (by decide)
    have hj' : j = 0 ∨ j = 1 ∨ j = 2 ∨ j = 3 := by omega
    rcases hj' with z | z | z | z <;> subst z
    · exact ⟨_, st2, by simp [lcStep, wipeL, e2]; rfl, f2, 66, rfl, by decide⟩
    · exact ⟨_, st2, by simp [lcStep, wipeL, e2]; rfl, f2, 67, rfl, by decide⟩
    · exact ⟨_, st2, by simp [lcStep, wipeL, e2]; rfl, f2, 73, rfl, by decide⟩
    · exact ⟨_, st2, by simp [lcStep, wipeL, e2]; rfl, f2, 66, rfl, by decide⟩
  obtain ⟨vs, st2, e2, f2, l2, q2⟩ := lcLoop_inv (Lk s0) (fun v => ∃ c, v = .pv (Cd.tree (.leaf c)) ∧ lf c) _ st1 f1 leaf
  have pieces : ∀ vs : List LV, (∀ v ∈ vs, ∃ c, v = .pv (Cd.tree (.leaf c)) ∧ lf c) → ∃ cs : List Cd, vs = (cs.map Cd.tree).map .pv ∧ allGood cs ∧ total cs = vs.length := by
    intro vs
    induction vs with
    | nil => exact fun _ => ⟨[], rfl, fun c hc => by simp at hc, rfl⟩
    | cons v vs ih =>
      intro hv
      obtain ⟨cs, h1, h2, h3⟩ := ih fun w hw => hv w (by simp [hw])
      obtain ⟨c, h4, h5⟩ := hv v (by simp)
      refine ⟨.leaf c :: cs, by rw [h4, h1]; rfl, fun d hd => ?_, by simp [total, Cd.many] at h3 ⊢; omega⟩
      rcases List.mem_cons.mp hd with z | z
      · rw [z]; exact h5
      · exact h2 d z
  obtain ⟨cs, hcs, gcs, tcs⟩ := pieces vs q2
  rw [List.length_map, upto_length] at l2
  have ncs : cs.length = k + 1 := by
    have := congrArg List.length hcs
    rw [List.length_map, List.length_map, l2] at this
    exact this.symm
  subst hcs
  have kk : (1 : Int) + (k : Int) = ((k + 1 : Nat) : Int) := by push_cast; omega
  have hline : line = 16777216 := rfl
  have lc := lcV_upto (live := false) (n := k + 1) (by omega) e2
  rw [mkLst_pv (by rw [List.length_map]; omega), ← kk] at lc
  -- the turns
  have turn : ∀ (x : PV) (cs : List Cd) (a3 a4 a5 : Option LV) (st : Store), Lk s0 st → cs ≠ [] → allGood cs → total cs ≤ M → cs.length ≤ M → ∃ cs' b3 b4 b5 st', forStep S (.nm 3) (match m13.body.getD 1 .pass with
      | .for_ _ _ _ b => b
      | _ => []) x [some (.ref 0), some (.pv (.int (M : Nat))), some (.pv (.lst (cs.map Cd.tree))), a3, a4, a5] st = some (.nx [some (.ref 0), some (.pv (.int (M : Nat))), some (.pv (.lst (cs'.map Cd.tree))), b3, b4, b5] st') ∧ Lk s0 st' ∧ cs' ≠ [] ∧ allGood cs' ∧ total cs' ≤ M ∧ cs'.length ≤ M := by
    intro x cs a3 a4 a5 st hf hne hg ht hlM
    by_cases h1 : 1 < cs.length
    · have h1' : (1 : Int) < cs.length := by omega
      obtain ⟨j, st3, e3, hj, f3⟩ := dr hf (m := (cs.length : Int) - 1) (by omega) (by omega)
      obtain ⟨b, st4, e4, hb, f4⟩ := dr f3 (m := 2) (by decide) (by decide)
      have hb' : b = 0 ∨ b = 1 := by omega
      have keep : ∀ {l : List Cd} {a b : Cd} {r : List Cd}, cs = l ++ a :: b :: r → l ++ Cd.node a b :: r ≠ [] ∧ allGood (l ++ Cd.node a b :: r) ∧ total (l ++ Cd.node a b :: r) ≤ M ∧ (l ++ Cd.node a b :: r).length ≤ M := by
        intro l a b r ecs
        refine ⟨by simp, fun c hc => ?_, ?_, ?_⟩
        · rcases List.mem_append.mp hc with z | z
          · exact hg c (by rw [ecs]; simp [z])
          · rcases List.mem_cons.mp z with z | z
            · subst z
              exact ⟨hg a (by rw [ecs]; simp), hg b (by rw [ecs]; simp)⟩
            · exact hg c (by rw [ecs]; simp [z])
        · rw [ecs] at ht
          simp [total, Cd.many] at ht ⊢
          omega
        · rw [ecs] at hlM
          simp at hlM ⊢
          omega
      rcases hb' with z | z <;> subst z
      · obtain ⟨l, a, b, r, ecs, c1, c2, i0, i1, j1, j2⟩ := join_two (k := 0) (cs := cs) (by omega) (by omega)
        refine ⟨l ++ .node a b :: r, some (.pv x), a4, some (.pv (.int 0)), st4, ?_, f4, keep ecs⟩
        simp at c1 c2 i0 i1 e4
        simp [m13, forStep, h1', e3, e4, optL, doSlc, c1, c2, i0, i1, j1, j2]
      · obtain ⟨l, a, b, r, ecs, c1, c2, i0, i1, j1, j2⟩ := join_two (k := j) (cs := cs) (by omega) (by omega)
        refine ⟨l ++ .node a b :: r, some (.pv x), a4, some (.pv (.int j)), st4, ?_, f4, keep ecs⟩
        simp at e4
        simp [m13, forStep, h1', e3, e4, optL, doSlc, c1, c2, i0, i1, j1, j2]
    · have h1' : ¬ (1 : Int) < cs.length := by omega
      refine ⟨cs, some (.pv x), a4, a5, st, ?_, hf, hne, hg, ht, hlM⟩
      simp [m13, forStep, h1']
  let I : Nat → Slots → Store → Prop := fun _ φ st => Lk s0 st ∧ ∃ cs a3 a4 a5, φ = [some (.ref 0), some (.pv (.int (M : Nat))), some (.pv (.lst (cs.map Cd.tree))), a3, a4, a5] ∧ cs ≠ [] ∧ allGood cs ∧ total cs ≤ M ∧ cs.length ≤ M
  have l0 : I 0 [some (.ref 0), some (.pv (.int (M : Nat))), some (.pv (.lst (cs.map Cd.tree))), none, none, none] st2 := ⟨f2, cs, none, none, none, rfl, by intro z; subst z; simp at ncs, gcs, by
    have : (List.map LV.pv (cs.map Cd.tree)).length = cs.length := by simp
    omega, by omega⟩
  obtain ⟨φ', st3, e3, f3, cs', a3, a4, a5, hφ, k1, k2, k3, k4⟩ := forLoop_inv I ((upto 0 M).map .int) 0 _ st2 l0 fun i x φ st _ hi => by
    obtain ⟨hf, cs, a3, a4, a5, hφ, q1, q2, q3, q4⟩ := hi
    obtain ⟨cs', b3, b4, b5, st', e, f', r1, r2, r3, r4⟩ := turn x cs a3 a4 a5 st hf q1 q2 q3 q4
    subst hφ
    exact ⟨_, st', e, f', cs', b3, b4, b5, rfl, r1, r2, r3, r4⟩
  subst hφ
  have fv := forV_upto (n := M) (by omega) (forStep S (.nm 3) (match m13.body.getD 1 .pass with
      | .for_ _ _ _ b => b
      | _ => [])) [some (.ref 0), some (.pv (.int (M : Nat))), some (.pv (.lst (cs.map Cd.tree))), none, none, none] st2
  rw [e3] at fv
  obtain ⟨c, cs1, hc1⟩ : ∃ c r, cs' = c :: r := List.exists_cons_of_ne_nil k1
  subst hc1
  refine ⟨c, st3, ?_, by rw [← hs0]; exact f3, k2 c (by simp), by simp [total] at k3; omega⟩
  simp [m13, e1, lc] at fv ⊢
  simp [fv]
theorem text_of : ∀ (c : Cd) (n : Nat), c.dep + 2 ≤ n → c.text.length ≤ line → Pr.cal n 2 [.pv c.tree] [] = some (.ok (.pv (.str c.text)) [])
  | .leaf c, n, h, _ => by
    obtain ⟨n, rfl⟩ : ∃ m, n = m + 2 := ⟨n - 2, by simp only [Cd.dep] at h; omega⟩
    rw [cal_eq Pr (n + 1) 2 m2 _ _ rfl rfl]
    simp [m2, Cd.tree, Cd.text]
  | .node a b, n, h, hl => by
    obtain ⟨n, rfl⟩ : ∃ m, n = m + 2 := ⟨n - 2, by simp only [Cd.dep] at h; omega⟩
    rw [cal_eq Pr (n + 1) 2 m2 _ _ rfl rfl]
    simp only [Cd.text, List.length_cons, List.length_append, List.length_nil] at hl
    simp only [Cd.dep] at h
    have ha := call1 (P := Pr) (f := 2) (st := []) rfl (text_of a (n + 1) (by omega) (by omega))
    have hb := call1 (P := Pr) (f := 2) (st := []) rfl (text_of b (n + 1) (by omega) (by omega))
    have l1 : 1 + a.text.length ≤ line := by omega
    have l2 : a.text.length + 1 + b.text.length ≤ line := by omega
    have l3 : a.text.length + b.text.length + 1 + 1 ≤ line := by omega
    simp [m2, Cd.tree, Cd.text, ha, hb, doBin, l1, l2, l3]
theorem count_of : ∀ (c : Cd) (n : Nat), c.dep + 2 ≤ n → Pr.cal n 1 [.pv c.tree] [] = some (.ok (.pv (.int c.many)) [])
  | .leaf c, n, h => by
    obtain ⟨n, rfl⟩ : ∃ m, n = m + 2 := ⟨n - 2, by simp only [Cd.dep] at h; omega⟩
    rw [cal_eq Pr (n + 1) 1 m1 _ _ rfl rfl]
    simp [m1, Cd.tree, Cd.many]
  | .node a b, n, h => by
    obtain ⟨n, rfl⟩ : ∃ m, n = m + 2 := ⟨n - 2, by simp only [Cd.dep] at h; omega⟩
    rw [cal_eq Pr (n + 1) 1 m1 _ _ rfl rfl]
    simp only [Cd.dep] at h
    have ha := call1 (P := Pr) (f := 1) (st := []) rfl (count_of a (n + 1) (by omega))
    have hb := call1 (P := Pr) (f := 1) (st := []) rfl (count_of b (n + 1) (by omega))
    simp [m1, Cd.tree, Cd.many, ha, hb]
def bad (t rest : Sg) : Ex := ⟨1, [(0, .int ((t.length : Int) - rest.length))]⟩
def pc : Nat → Sg → Option (Except Sg (Cd × Sg))
  | 0, _ => none
  | _ + 1, [] => some (.error [])
  | n + 1, x :: r => if x = 40 then (match pc n r with
      | some (.ok (f, r1)) => (match pc n r1 with
        | some (.ok (g, r2)) => (match r2 with
          | [] => some (.error [])
          | y :: r3 => if y = 41 then some (.ok (.node f g, r3)) else some (.error (y :: r3)))
        | o => o)
      | o => o)
    else if lf x then some (.ok (.leaf x, r)) else some (.error (x :: r))
def pcR (t : Sg) : Except Sg (Cd × Sg) → ER
  | .ok (c, r) => .ok (.pv (.tup [c.tree, .int ((t.length : Int) - r.length)])) []
  | .error r => .ex (bad t r) []
theorem pc_suf : ∀ {n : Nat} {s : Sg} {r : Except Sg (Cd × Sg)}, pc n s = some r → (match r with
    | .ok (_, q) => ∃ p, s = p ++ q
    | .error q => ∃ p, s = p ++ q)
  | 0, _, _, h => by simp [pc] at h
  | _ + 1, [], r, h => by
    simp only [pc, Option.some.injEq] at h
    subst h
    exact ⟨[], rfl⟩
  | n + 1, x :: s, r, h => by
    unfold pc at h
    split at h
    · split at h
      · rename_i f r1 e1
        obtain ⟨p1, q1⟩ := pc_suf e1
        split at h
        · rename_i g r2 e2
          obtain ⟨p2, q2⟩ := pc_suf e2
          split at h
          · simp only [Option.some.injEq] at h
            subst h
            exact ⟨x :: s, by simp⟩
          · rename_i y r3
            split at h
            · simp only [Option.some.injEq] at h
              subst h
              exact ⟨x :: (p1 ++ (p2 ++ [y])), by rw [q1, q2]; simp⟩
            · simp only [Option.some.injEq] at h
              subst h
              exact ⟨x :: (p1 ++ p2), by rw [q1, q2]; simp⟩
        · rename_i o ho
          cases r with
          | ok v => exact absurd h (by
              obtain ⟨c, q⟩ := v
              exact ho c q)
          | error q =>
            obtain ⟨p2, q2⟩ := pc_suf h
            exact ⟨x :: (p1 ++ p2), by rw [q1, q2]; simp⟩
      · rename_i o ho
        cases r with
        | ok v => exact absurd h (by
            obtain ⟨c, q⟩ := v
            exact ho c q)
        | error q =>
          obtain ⟨p2, q2⟩ := pc_suf h
          exact ⟨x :: p2, by rw [q2]; simp⟩
    · split at h
      · simp only [Option.some.injEq] at h
        subst h
        exact ⟨[x], rfl⟩
      · simp only [Option.some.injEq] at h
        subst h
        exact ⟨[], rfl⟩
theorem xin1 (n : Nat) : (Pr.sem n).xin 1 = some (1, [(0, 0)]) := rfl
/-- taken -/
theorem taken_at {n k : Nat} (t a : Sg) (hl : t.length ≤ line) (hk : k ≤ t.length) : Pr.cal (n + 1) 3 [.pv (.str t), .pv (.int (k : Int)), .pv (.str a)] [] = some (match t[k]? with
    | none => .ex ⟨1, [(0, .int (k : Int))]⟩ []
    | some x => if x ∈ a then .ok (.pv (.str [x])) [] else .ex ⟨1, [(0, .int (k : Int))]⟩ []) := by
  rw [cal_eq Pr n 3 m3 _ _ rfl rfl]
  have hlen : doBI .len [.str t] = some (.int (t.length : Nat)) := len_str hl
  by_cases he : k = t.length
  · have e0 : t[k]? = none := by simp [he]
    rw [e0]
    simp [m3, hlen, xin1, extP, he]
  · have h1 : k < t.length := by omega
    have he' : ¬ ((k : Int) = (t.length : Int)) := by omega
    have e0 : t[k]? = some t[k] := List.getElem?_eq_getElem h1
    have hix : doIdx (.str t) (.int (k : Int)) = some (.str [t[k]]) := by rw [idx_str hl h1, e0]; rfl
    have hin : ∀ x, doCmp .nin (.str [x]) (.str a) = some (!decide (x ∈ a)) := fun _ => rfl
    rw [e0]
    by_cases hx : t[k] ∈ a
    · simp [m3, hlen, he', hix, hin, hx]
    · simp [m3, hlen, he', hix, hin, hx, xin1, extP]
theorem drop_cons {t : Sg} {k : Nat} (h : k < t.length) : t.drop k = t[k] :: t.drop (k + 1) := List.drop_eq_getElem_cons h
theorem from_ok : ∀ (n : Nat) (t : Sg) (k : Nat) (r : Except Sg (Cd × Sg)), t.length ≤ line → k ≤ t.length → pc n (t.drop k) = some r → Pr.cal (n + 1) 4 [.pv (.str t), .pv (.int (k : Int))] [] = some (pcR t r)
  | 0, _, _, _, _, _, h => by simp [pc] at h
  | n + 1, t, k, r, hl, hk, h => by
    rw [cal_eq Pr (n + 1) 4 m4 _ _ rfl rfl]
    have tk := taken_at (n := n) (k := k) t [40, 66, 67, 73] hl hk
    by_cases he : k = t.length
    · have e0 : t[k]? = none := by simp [he]
      have ed : t.drop k = [] := by simp [he]
      rw [ed] at h
      simp only [pc, Option.some.injEq] at h
      subst h
      rw [e0] at tk
      have c3 := callx3 (P := Pr) (st := []) rfl tk
      simp [m4, c3, pcR, bad]
      omega
    · have h1 : k < t.length := by omega
      have e0 : t[k]? = some t[k] := List.getElem?_eq_getElem h1
      obtain ⟨x, hx⟩ : ∃ x, x = t[k] := ⟨_, rfl⟩
      have hix : doIdx (.str t) (.int (k : Int)) = some (.str [x]) := by rw [idx_str hl h1, e0, hx]; rfl
      rw [drop_cons h1, ← hx] at h
      rw [e0, ← hx] at tk
      have hdl : (t.drop (k + 1)).length + 1 + k = t.length := by rw [List.length_drop]; omega
      simp only at tk
      unfold pc at h
      by_cases h40 : x = 40
      · subst h40
        have c3 := call3 (P := Pr) (st := []) rfl tk
        rw [if_pos rfl] at h
        have ih := from_ok n t (k + 1)
        have kk : ((k + 1 : Nat) : Int) = (k : Int) + 1 := by push_cast; rfl
        cases q1 : pc n (t.drop (k + 1)) with
        | none => rw [q1] at h; cases h
        | some r1 =>
          have i1 := ih r1 hl (by omega) q1
          rw [kk] at i1
          rw [q1] at h
          cases r1 with
          | error q =>
            simp only [Option.some.injEq] at h
            subst h
            have c4 := callx2 (P := Pr) (st := []) rfl i1
            simp [m4, c3, c4, pcR]
          | ok v =>
            obtain ⟨f, s1⟩ := v
            have c4 := call2 (P := Pr) (st := []) rfl i1
            obtain ⟨p1, hp1⟩ := pc_suf q1
            have hs1 : s1.length ≤ t.length := by
              have := congrArg List.length hp1
              simp only [List.length_append] at this
              omega
            obtain ⟨k1, hk1⟩ : ∃ k1, k1 + s1.length = t.length := ⟨t.length - s1.length, by omega⟩
            have hd1 : t.drop k1 = s1 := by
              have e1 : t = (t.take (k + 1) ++ p1) ++ s1 := by rw [List.append_assoc, ← hp1, List.take_append_drop]
              have e2 : (t.take (k + 1) ++ p1).length = k1 := by
                have := congrArg List.length e1
                rw [List.length_append] at this
                omega
              rw [e1, ← e2, List.drop_left]
            have kk1 : (t.length : Int) - s1.length = (k1 : Int) := by omega
            rw [kk1] at c4
            simp only at h
            rw [← hd1] at h
            have ih2 := from_ok n t k1
            cases q2 : pc n (t.drop k1) with
            | none => rw [q2] at h; cases h
            | some r2 =>
              have i2 := ih2 r2 hl (by omega) q2
              rw [q2] at h
              cases r2 with
              | error q =>
                simp only [Option.some.injEq] at h
                subst h
                have c5 := callx2 (P := Pr) (st := []) rfl i2
                simp [m4, c3, c4, c5, pcR]
              | ok v2 =>
                obtain ⟨g, s2⟩ := v2
                have c5 := call2 (P := Pr) (st := []) rfl i2
                obtain ⟨p2, hp2⟩ := pc_suf q2
                rw [hd1] at hp2
                have hs2 : s2.length ≤ t.length := by
                  have := congrArg List.length hp2
                  simp only [List.length_append] at this
                  omega
                obtain ⟨k2, hk2⟩ : ∃ k2, k2 + s2.length = t.length := ⟨t.length - s2.length, by omega⟩
                have hd2 : t.drop k2 = s2 := by
                  have e1 : t = (t.take k1 ++ p2) ++ s2 := by rw [List.append_assoc, ← hp2, ← hd1, List.take_append_drop]
                  have e2 : (t.take k1 ++ p2).length = k2 := by
                    have := congrArg List.length e1
                    rw [List.length_append] at this
                    omega
                  rw [e1, ← e2, List.drop_left]
                have kk2 : (t.length : Int) - s2.length = (k2 : Int) := by omega
                rw [kk2] at c5
                have tk2 := taken_at (n := n) (k := k2) t [41] hl (by omega)
                simp only at h
                cases s2 with
                | nil =>
                  have e2 : t[k2]? = none := by
                    rw [List.getElem?_eq_none]
                    simp only [List.length_nil] at hk2
                    omega
                  rw [e2] at tk2
                  simp only [Option.some.injEq] at h
                  subst h
                  have c6 := callx3 (P := Pr) (st := []) rfl tk2
                  simp [m4, c3, c4, c5, c6, pcR, bad]
                  simp only [List.length_nil] at hk2
                  omega
                | cons y s3 =>
                  have e2 : t[k2]? = some y := by
                    have := congrArg (fun l => l[0]?) hd2
                    simpa using this
                  rw [e2] at tk2
                  have hk3 : k2 + (s3.length + 1) = t.length := by simpa using hk2
                  simp only at h
                  by_cases hy : y = 41
                  · subst hy
                    simp only [if_true, Option.some.injEq] at h
                    subst h
                    have c6 := call3 (P := Pr) (st := []) rfl tk2
                    simp [m4, c3, c4, c5, c6, pcR, Cd.tree]
                    omega
                  · rw [if_neg hy] at h
                    simp only [Option.some.injEq] at h
                    subst h
                    simp only [List.mem_singleton, hy, if_false] at tk2
                    have c6 := callx3 (P := Pr) (st := []) rfl tk2
                    simp [m4, c3, c4, c5, c6, pcR, bad]
                    omega
      · rw [if_neg h40] at h
        by_cases hlf : lf x
        · rw [if_pos hlf] at h
          simp only [Option.some.injEq] at h
          subst h
          have hm : x ∈ [40, 66, 67, 73] := by
            unfold lf at hlf
            simp only [List.mem_cons, List.not_mem_nil, or_false]
            exact .inr hlf
          rw [if_pos hm] at tk
          have c3 := call3 (P := Pr) (st := []) rfl tk
          simp [m4, c3, hix, h40, pcR, Cd.tree]
          omega
        · rw [if_neg hlf] at h
          simp only [Option.some.injEq] at h
          subst h
          have hm : x ∉ [40, 66, 67, 73] := by
            unfold lf at hlf
            simp only [List.mem_cons, List.not_mem_nil, or_false]
            intro z
            exact z.elim h40 hlf
          rw [if_neg hm] at tk
          have c3 := callx3 (P := Pr) (st := []) rfl tk
          simp [m4, c3, pcR, bad]
          omega

theorem pc_mono1 : ∀ (n : Nat) (s : Sg) (r : Except Sg (Cd × Sg)), pc n s = some r → pc (n + 1) s = some r
  | 0, _, _, h => by simp [pc] at h
  | n + 1, [], r, h => by simpa [pc] using h
  | n + 1, x :: s, r, h => by
    unfold pc at h ⊢
    split at h
    · rename_i h40
      rw [if_pos h40]
      cases q1 : pc n s with
      | none => rw [q1] at h; cases h
      | some r1 =>
        rw [pc_mono1 n s r1 q1]
        rw [q1] at h
        cases r1 with
        | error q => exact h
        | ok v =>
          obtain ⟨f, s1⟩ := v
          simp only at h ⊢
          cases q2 : pc n s1 with
          | none => rw [q2] at h; cases h
          | some r2 =>
            rw [pc_mono1 n s1 r2 q2]
            rw [q2] at h
            exact h
    · rename_i h40
      rw [if_neg h40]
      exact h
theorem pc_mono {n m : Nat} {s : Sg} {r : Except Sg (Cd × Sg)} (h : pc n s = some r) (hm : n ≤ m) : pc m s = some r := by
  induction hm with
  | refl => exact h
  | step _ ih => exact pc_mono1 _ _ _ ih
theorem pc_dep : ∀ {n : Nat} {s : Sg} {c : Cd} {q : Sg}, pc n s = some (.ok (c, q)) → c.dep + 1 ≤ n
  | 0, _, _, _, h => by simp [pc] at h
  | n + 1, [], _, _, h => by simp [pc] at h
  | n + 1, x :: s, c, q, h => by
    unfold pc at h
    split at h
    · cases q1 : pc n s with
      | none => rw [q1] at h; cases h
      | some r1 =>
        rw [q1] at h
        cases r1 with
        | error q => simp at h
        | ok v =>
          obtain ⟨f, s1⟩ := v
          simp only at h
          cases q2 : pc n s1 with
          | none => rw [q2] at h; cases h
          | some r2 =>
            rw [q2] at h
            cases r2 with
            | error q => simp at h
            | ok v2 =>
              obtain ⟨g, s2⟩ := v2
              have d1 := pc_dep q1
              have d2 := pc_dep q2
              cases s2 with
              | nil => simp at h
              | cons y s3 =>
                simp only at h
                split at h
                · simp only [Option.some.injEq, Except.ok.injEq, Prod.mk.injEq] at h
                  obtain ⟨h1, _⟩ := h
                  subst h1
                  simp only [Cd.dep]
                  omega
                · simp at h
    · split at h
      · simp only [Option.some.injEq, Except.ok.injEq, Prod.mk.injEq] at h
        obtain ⟨h1, _⟩ := h
        subst h1
        simp only [Cd.dep]
        omega
      · simp at h
/-- fuel enough: as many as there are opened uses -/
theorem pc_some : ∀ (n : Nat) (s : Sg), s.count 40 < n → ∃ r, pc n s = some r ∧ (match r with
    | .ok (_, q) => q.count 40 ≤ s.count 40
    | .error _ => True)
  | 0, _, h => by omega
  | n + 1, [], _ => ⟨_, rfl, trivial⟩
  | n + 1, x :: s, h => by
    unfold pc
    by_cases h40 : x = 40
    · subst h40
      rw [if_pos rfl]
      have hc : (40 :: s).count 40 = s.count 40 + 1 := by simp
      obtain ⟨r1, e1, k1⟩ := pc_some n s (by omega)
      rw [e1]
      cases r1 with
      | error q => exact ⟨_, rfl, trivial⟩
      | ok v =>
        obtain ⟨f, s1⟩ := v
        simp only at k1 ⊢
        obtain ⟨r2, e2, k2⟩ := pc_some n s1 (by omega)
        rw [e2]
        cases r2 with
        | error q => exact ⟨_, rfl, trivial⟩
        | ok v2 =>
          obtain ⟨g, s2⟩ := v2
          simp only at k2 ⊢
          cases s2 with
          | nil => exact ⟨_, rfl, trivial⟩
          | cons y s3 =>
            simp only
            by_cases hy : y = 41
            · rw [if_pos hy]
              refine ⟨_, rfl, ?_⟩
              subst hy
              simp only [List.count_cons] at k2 ⊢
              simp at k2 ⊢
              omega
            · rw [if_neg hy]
              exact ⟨_, rfl, trivial⟩
    · rw [if_neg h40]
      by_cases hl : lf x
      · rw [if_pos hl]
        refine ⟨_, rfl, ?_⟩
        simp only [List.count_cons]
        omega
      · rw [if_neg hl]
        exact ⟨_, rfl, trivial⟩
def fin : Except Sg (Cd × Sg) → Except Sg Cd
  | .error q => .error q
  | .ok (c, []) => if 120 < c.many then .error [] else .ok c
  | .ok (_, x :: q) => .error (x :: q)
theorem code_ok {m : Nat} {t : Sg} {r : Except Sg (Cd × Sg)} (hl : t.length ≤ line) (h : pc m t = some r) : Pr.cal (m + 2) 5 [.pv (.str t)] [] = some (match fin r with
    | .error q => .ex (bad t q) []
    | .ok c => .ok (.pv c.tree) []) := by
  rw [cal_eq Pr (m + 1) 5 m5 _ _ rfl rfl]
  have f4 := from_ok m t 0 r hl (Nat.zero_le _) (by simpa using h)
  have hlen : doBI .len [.str t] = some (.int (t.length : Nat)) := len_str hl
  have g0 : (Pr.sem (m + 1)).glb 0 = some (.int 120) := rfl
  cases r with
  | error q =>
    have c4 := callx2 (P := Pr) (st := []) rfl f4
    simp at c4
    simp [m5, c4, fin]
  | ok v =>
    obtain ⟨c, q⟩ := v
    have c4 := call2 (P := Pr) (st := []) rfl f4
    simp at c4
    have c1 := call1 (P := Pr) (f := 1) (st := []) rfl (count_of c (m + 1) (by have := pc_dep h; omega))
    cases q with
    | nil =>
      simp at c4
      by_cases hm : 120 < c.many
      · have hm' : (120 : Int) < c.many := by omega
        simp [m5, c4, c1, g0, hlen, fin, hm, hm', xin1, extP, bad]
      · have hm' : ¬ (120 : Int) < c.many := by omega
        simp [m5, c4, c1, g0, hlen, fin, hm, hm']
    | cons x q =>
      obtain ⟨p, hp⟩ := pc_suf h
      have hq : (t.length : Int) - (x :: q).length < t.length := by simp; omega
      simp only [List.length_cons] at c4 hq
      have hq' : (t.length : Int) - ((q.length : Int) + 1) < t.length := by omega
      simp [m5, c4, hlen, fin, hq', xin1, extP, bad]
theorem lf_ne {x : Nat} (h : lf x) : x ≠ 40 ∧ x ≠ 41 := by
  unfold lf at h
  omega
/-- a text is read back -/
theorem pc_of_text : ∀ (c : Cd) (n : Nat) (q : Sg), c.good → c.dep + 1 ≤ n → pc n (c.text ++ q) = some (.ok (c, q))
  | .leaf x, n, q, g, h => by
    obtain ⟨n, rfl⟩ : ∃ m, n = m + 1 := ⟨n - 1, by omega⟩
    have hx : lf x := g
    simp only [Cd.text, List.cons_append, List.nil_append, pc]
    rw [if_neg (lf_ne hx).1, if_pos hx]
  | .node a b, n, q, g, h => by
    obtain ⟨n, rfl⟩ : ∃ m, n = m + 1 := ⟨n - 1, by omega⟩
    simp only [Cd.dep] at h
    have ha := pc_of_text a n (b.text ++ 41 :: q) g.1 (by omega)
    have hb := pc_of_text b n (41 :: q) g.2 (by omega)
    have e : (Cd.node a b).text ++ q = 40 :: (a.text ++ (b.text ++ 41 :: q)) := by simp [Cd.text]
    rw [e]
    unfold pc
    rw [if_pos rfl, ha]
    simp only
    rw [hb]
    simp
end Z53
end

section
namespace Z53
open Z
/-! ### numbers: a reader by fuel; an error gives what is left -/
def nbad (ns rest : List Int) : Ex := ⟨2, [(0, .int ((ns.length : Int) - rest.length))]⟩
abbrev NRes := Except (List Int) (Cd × List Int × Nat)
def nc : Nat → Nat → List Int → Option NRes
  | 0, _, _ => none
  | _ + 1, _, [] => some (.error [])
  | n + 1, p, x :: r => if x = 0 then (if 120 < p + 1 then some (.error (x :: r)) else match nc n (p + 1) r with
      | some (.ok (f, r1, p1)) => (match nc n p1 r1 with
        | some (.ok (g, r2, p2)) => some (.ok (.node f g, r2, p2))
        | o => o)
      | o => o)
    else if x = 1 then some (.ok (.leaf 66, r, p)) else if x = 2 then some (.ok (.leaf 67, r, p)) else if x = 3 then some (.ok (.leaf 73, r, p)) else some (.error (x :: r))
theorem many_pos (c : Cd) : 1 ≤ c.many := by have := c.dep_many; omega
def NcP (s : List Int) (p : Nat) : NRes → Prop
  | .ok (c, q, p') => (∃ a, s = a ++ q ∧ a.length + 1 = 2 * c.many) ∧ p' + 1 = p + c.many ∧ (p ≤ 120 → p' ≤ 120) ∧ c.good
  | .error q => ∃ a, s = a ++ q ∧ (p ≤ 120 → a.length + 2 * p ≤ 241)
theorem nc_suf : ∀ {n p : Nat} {s : List Int} {r : NRes}, nc n p s = some r → NcP s p r
  | 0, _, _, _, h => by simp [nc] at h
  | n + 1, p, [], r, h => by
    simp only [nc, Option.some.injEq] at h
    subst h
    exact ⟨[], rfl, fun _ => by simp; omega⟩
  | n + 1, p, x :: s, r, h => by
    unfold nc at h
    by_cases h0 : x = 0
    · rw [if_pos h0] at h
      by_cases hp : 120 < p + 1
      · rw [if_pos hp] at h
        simp only [Option.some.injEq] at h
        subst h
        exact ⟨[], rfl, fun _ => by simp; omega⟩
      · rw [if_neg hp] at h
        cases q1 : nc n (p + 1) s with
        | none => rw [q1] at h; cases h
        | some r1 =>
          have i1 := nc_suf q1
          rw [q1] at h
          cases r1 with
          | error q =>
            simp only [Option.some.injEq] at h
            subst h
            obtain ⟨a, ha, hb⟩ := i1
            exact ⟨x :: a, by rw [ha]; rfl, fun _ => by have := hb (by omega); simp only [List.length_cons]; omega⟩
          | ok v =>
            obtain ⟨f, r1, p1⟩ := v
            simp only at h
            obtain ⟨⟨a1, e1, l1⟩, m1, b1, g1⟩ := i1
            cases q2 : nc n p1 r1 with
            | none => rw [q2] at h; cases h
            | some r2 =>
              have i2 := nc_suf q2
              rw [q2] at h
              cases r2 with
              | error q =>
                simp only [Option.some.injEq] at h
                subst h
                obtain ⟨a, ha, hb⟩ := i2
                exact ⟨x :: (a1 ++ a), by rw [e1, ha]; simp, fun _ => by have := hb (b1 (by omega)); simp only [List.length_cons, List.length_append]; omega⟩
              | ok v =>
                obtain ⟨g, r2, p2⟩ := v
                simp only [Option.some.injEq] at h
                subst h
                obtain ⟨⟨a2, e2, l2⟩, m2, b2, g2⟩ := i2
                refine ⟨⟨x :: (a1 ++ a2), by rw [e1, e2]; simp, ?_⟩, ?_, fun hh => b2 (b1 (by omega)), g1, g2⟩
                · simp only [Cd.many, List.length_cons, List.length_append]; omega
                · simp only [Cd.many]; omega
    · rw [if_neg h0] at h
      have leaf : ∀ c : Nat, lf c → some (Except.ok (Cd.leaf c, s, p) : NRes) = some r → NcP (x :: s) p r := fun c hc e => by
        simp only [Option.some.injEq] at e
        subst e
        exact ⟨⟨[x], rfl, rfl⟩, rfl, id, hc⟩
      by_cases h1 : x = 1
      · rw [if_pos h1] at h; exact leaf 66 (.inl rfl) h
      · rw [if_neg h1] at h
        by_cases h2 : x = 2
        · rw [if_pos h2] at h; exact leaf 67 (.inr (.inl rfl)) h
        · rw [if_neg h2] at h
          by_cases h3 : x = 3
          · rw [if_pos h3] at h; exact leaf 73 (.inr (.inr rfl)) h
          · rw [if_neg h3] at h
            simp only [Option.some.injEq] at h
            subst h
            exact ⟨[], rfl, fun _ => by simp; omega⟩
theorem nc_some : ∀ (n p : Nat) (s : List Int), p ≤ 120 → 121 < n + p → ∃ r, nc n p s = some r
  | 0, p, _, h1, h2 => by omega
  | n + 1, p, [], _, _ => ⟨_, rfl⟩
  | n + 1, p, x :: s, h1, h2 => by
    unfold nc
    by_cases h0 : x = 0
    · rw [if_pos h0]
      by_cases hp : 120 < p + 1
      · rw [if_pos hp]; exact ⟨_, rfl⟩
      · rw [if_neg hp]
        obtain ⟨r1, e1⟩ := nc_some n (p + 1) s (by omega) (by omega)
        have i1 := nc_suf e1
        rw [e1]
        cases r1 with
        | error q => exact ⟨_, rfl⟩
        | ok v =>
          obtain ⟨f, r1, p1⟩ := v
          obtain ⟨_, m1, b1, _⟩ := i1
          simp only
          have := many_pos f
          obtain ⟨r2, e2⟩ := nc_some n p1 r1 (b1 (by omega)) (by omega)
          rw [e2]
          cases r2 with
          | error q => exact ⟨_, rfl⟩
          | ok v => exact ⟨_, rfl⟩
    · rw [if_neg h0]
      repeat (first | exact ⟨_, rfl⟩ | split)
/-! ### the program's reader -/
def rdS (ns : List Int) (k p : Nat) : Store := [.ins 0 [(1, .pv (.lst (ns.map .int))), (0, .pv (.int (k : Nat))), (2, .pv (.int (p : Nat)))]]
theorem xinB (n : Nat) : (Pr.sem n).xin 2 = some (1, [(0, 0)]) := rfl
section
variable {n : Nat} {ns : List Int} {k p : Nat}
theorem rd_is (nf : Nat) (h : 3 ≤ nf) : isIns 0 nf (.ref 0) (rdS ns k p) = true := by
  simp [isIns, rdS]; omega
theorem rd_f0 : getF (.ref 0) 1 (rdS ns k p) = some (.ok (.pv (.lst (ns.map .int))) (rdS ns k p)) := rfl
theorem rd_f1 : getF (.ref 0) 0 (rdS ns k p) = some (.ok (.pv (.int (k : Nat))) (rdS ns k p)) := rfl
theorem rd_f2 : getF (.ref 0) 2 (rdS ns k p) = some (.ok (.pv (.int (p : Nat))) (rdS ns k p)) := rfl
theorem rd_s1 (k' : Nat) : setFl (.ref 0) 0 (.pv (.int (k' : Nat))) (rdS ns k p) = some (rdS ns k' p) := rfl
theorem rd_s2 (p' : Nat) : setFl (.ref 0) 2 (.pv (.int (p' : Nat))) (rdS ns k p) = some (rdS ns k p') := rfl
theorem atI_map {i : Nat} (h : i < ns.length) : atI (ns.map PV.int) (i : Int) = some (.int ns[i]) := by
  rw [atI_nat (by rw [List.length_map]; exact h), List.getElem?_map, List.getElem?_eq_getElem h]
  rfl
theorem number_ok (a b : Int) (hk : k ≤ ns.length) : (Pr.sem (n + 1)).call 22 [.ref 0, .pv (.int a), .pv (.int b)] (rdS ns k p) = (match ns[k]? with
    | none => some (.ex ⟨2, [(0, .int (k : Nat))]⟩ (rdS ns k p))
    | some x => if a ≤ x ∧ x ≤ b then some (.ok (.pv (.int x)) (rdS ns (k + 1) p)) else some (.ex ⟨2, [(0, .int (k : Nat))]⟩ (rdS ns k p))) := by
  have hnf : (Pr.sem n).nf = 3 := rfl
  have is := fun k p => rd_is (ns := ns) (k := k) (p := p) 3 (Nat.le_refl _)
  have f0 := fun k => rd_f0 (ns := ns) (k := k) (p := p)
  have f1 := fun k => rd_f1 (ns := ns) (k := k) (p := p)
  have s1 := rd_s1 (ns := ns) (k := k) (p := p) (k + 1)
  have kk : ((k + 1 : Nat) : Int) = (k : Int) + 1 := by push_cast; rfl
  rw [kk] at s1
  have xi := xinB n
  by_cases he : k = ns.length
  · have e0 : ns[k]? = none := by simp [he]
    rw [e0]
    refine callx_len rfl ?_ rfl
    rw [cal_eq Pr n 22 m22 _ _ rfl rfl]
    have hl : ((ns.map PV.int).length : Int) = k := by simp [he]
    have is0 := is k p
    have f00 := f0 k
    have f10 := f1 k
    generalize rdS ns k p = R at *
    have ek : ((k : Int) = ((ns.length : Nat) : Int)) = True := by simp [he]
    simp [m22, hnf, is0, f00, f10, ek, xi, extP]

  · have h1 : k < ns.length := by omega
    have he' : ¬ ((k : Int) = (ns.length : Int)) := by omega
    have e0 : ns[k]? = some ns[k] := List.getElem?_eq_getElem h1
    have ix := atI_map (ns := ns) h1
    rw [e0]
    simp only
    generalize ns[k] = x at *
    by_cases hx : a ≤ x ∧ x ≤ b
    · rw [if_pos hx]
      refine call_len rfl ?_ rfl
      rw [cal_eq Pr n 22 m22 _ _ rfl rfl]
      have f0' := f0 (k + 1)
      have f1' := f1 (k + 1)
      rw [kk] at f1'
      have is' := is (k + 1) p
      have is0 := is k p
      have f00 := f0 k
      have f10 := f1 k
      have da : doAug .add (.int (k : Int)) (.int 1) = some (.int ((k : Int) + 1)) := rfl
      generalize rdS ns (k + 1) p = R1 at *
      generalize rdS ns k p = R at *
      simp [m22, hnf, is0, f00, f10, he', ix, hx, s1, is', f0', f1', da]
    · rw [if_neg hx]
      refine callx_len rfl ?_ rfl
      rw [cal_eq Pr n 22 m22 _ _ rfl rfl]
      have is0 := is k p
      have f00 := f0 k
      have f10 := f1 k
      generalize rdS ns k p = R at *
      by_cases ha : a ≤ x
      · have hb : ¬ x ≤ b := fun z => hx ⟨ha, z⟩
        simp [m22, hnf, is0, f00, f10, he', ix, ha, hb, xi, extP]
      · simp [m22, hnf, is0, f00, f10, he', ix, ha, xi, extP]
theorem part_ok : (Pr.sem (n + 1)).call 24 [.ref 0, .pv (.int 120)] (rdS ns k p) = if 120 < p + 1 then some (.ex ⟨2, [(0, .int ((k : Int) - 1))]⟩ (rdS ns k (p + 1))) else some (.ok (.pv .non) (rdS ns k (p + 1))) := by
  have hnf : (Pr.sem n).nf = 3 := rfl
  have is0 := rd_is (ns := ns) (k := k) (p := p) 3 (Nat.le_refl _)
  have is' := rd_is (ns := ns) (k := k) (p := p + 1) 3 (Nat.le_refl _)
  have f2 := rd_f2 (ns := ns) (k := k) (p := p)
  have f2' := rd_f2 (ns := ns) (k := k) (p := p + 1)
  have f1' := rd_f1 (ns := ns) (k := k) (p := p + 1)
  have s2 := rd_s2 (ns := ns) (k := k) (p := p) (p + 1)
  have pp : ((p + 1 : Nat) : Int) = (p : Int) + 1 := by push_cast; rfl
  rw [pp] at s2 f2'
  have xi := xinB n
  have da : doAug .add (.int (p : Int)) (.int 1) = some (.int ((p : Int) + 1)) := rfl
  by_cases h : 120 < p + 1
  · rw [if_pos h]
    refine callx_len rfl ?_ rfl
    rw [cal_eq Pr n 24 m24 _ _ rfl rfl]
    have h' : (120 : Int) < (p : Int) + 1 := by omega
    generalize rdS ns k (p + 1) = R1 at *
    generalize rdS ns k p = R at *
    simp [m24, hnf, is0, is', f2, f2', f1', s2, da, h', xi, extP]
  · rw [if_neg h]
    refine call_len rfl ?_ rfl
    rw [cal_eq Pr n 24 m24 _ _ rfl rfl]
    have h' : ¬ (120 : Int) < (p : Int) + 1 := by omega
    generalize rdS ns k (p + 1) = R1 at *
    generalize rdS ns k p = R at *
    simp [m24, hnf, is0, is', f2, f2', s2, da, h']
end
end Z53
end

section
namespace Z53
open Z
/-! ### Reader.code, code_of_bytes -/
def NR (ns : List Int) : NRes → Option ER → Prop
  | .ok (c, q, p'), o => ∃ k', k' + q.length = ns.length ∧ ns.drop k' = q ∧ o = some (.ok (.pv c.tree) (rdS ns k' p'))
  | .error q, o => ∃ k' p', o = some (.ex (nbad ns q) (rdS ns k' p'))
theorem drop_consI {t : List Int} {k : Nat} (h : k < t.length) : t.drop k = t[k] :: t.drop (k + 1) := List.drop_eq_getElem_cons h
theorem nr_call {n : Nat} {ns : List Int} {k p : Nat} {r : NRes} (h : NR ns r (Pr.cal n 25 [.ref 0] (rdS ns k p))) : NR ns r ((Pr.sem n).call 25 [.ref 0] (rdS ns k p)) := by
  cases r with
  | error q =>
    obtain ⟨k', p', e⟩ := h
    exact ⟨k', p', callx_len rfl e rfl⟩
  | ok v =>
    obtain ⟨c, q, p'⟩ := v
    obtain ⟨k', h1, h2, e⟩ := h
    exact ⟨k', h1, h2, call_len rfl e rfl⟩
theorem tabJ (n : Nat) : (Pr.sem n).tab 0 = some [[66], [67], [73]] := rfl
abbrev rcI : MS := .iff (.cmp .gt (.var 1) (.lit (.int 0))) [.ret (.tabI 0 (.bin .sub (.var 1) (.lit (.int 1))))] []
theorem rc_body : m25.body = [.asg (.nm 1) (.mcall 0 22 (.var 0) [.lit (.int 0), .tabL 0]), .iff (.cmp .gt (.var 1) (.lit (.int 0))) [.ret (.tabI 0 (.bin .sub (.var 1) (.lit (.int 1))))] [], .ex (.mcall 0 24 (.var 0) [.glb 0]), .asg (.nm 2) (.mcall 0 25 (.var 0) []), .ret (.tup [.var 2, .mcall 0 25 (.var 0) []])] := rfl
theorem cd_picks {S : Sem} {s : MS} {ss : List MS} {φ φ' : Slots} {st st' : Store} (h : exS S s φ st = some (.nx φ' st')) : exSs S (s :: ss) φ st = exSs S ss φ' st' := by
  rw [exSs_cons, h, seqS_nx]
theorem cd_stop {S : Sem} {s : MS} {ss : List MS} {φ φ' : Slots} {st st' : Store} {e : Ex} (h : exS S s φ st = some (.ex e φ' st')) : exSs S (s :: ss) φ st = some (.ex e φ' st') := by
  rw [exSs_cons, h, seqS_ex]
theorem cd_rt {S : Sem} {s : MS} {ss : List MS} {φ : Slots} {st st' : Store} {v : LV} (h : exS S s φ st = some (.rt v st')) : exSs S (s :: ss) φ st = some (.rt v st') := by
  rw [exSs_cons, h, seqS_rt]
theorem code_ok_n : ∀ (m n p : Nat) (ns : List Int) (k : Nat) (r : NRes), k ≤ ns.length → nc m p (ns.drop k) = some r → m + 2 ≤ n → NR ns r (Pr.cal n 25 [.ref 0] (rdS ns k p))
  | 0, _, _, _, _, _, _, h, _ => by simp [nc] at h
  | m + 1, n, p, ns, k, r, hk, h, hn => by
    obtain ⟨n, rfl⟩ : ∃ j, n = j + 1 := ⟨n - 1, by omega⟩
    obtain ⟨n', rfl⟩ : ∃ j, n = j + 1 := ⟨n - 1, by omega⟩
    rw [cal_eq Pr (n' + 1) 25 m25 _ _ rfl rfl, rc_body]
    have hnf : (Pr.sem (n' + 1)).nf = 3 := rfl
    have is := fun k p => rd_is (ns := ns) (k := k) (p := p) 3 (Nat.le_refl _)
    have nm := number_ok (n := n') (ns := ns) (k := k) (p := p) 0 3 hk
    have tj := tabJ (n' + 1)
    have sl0 : ([LV.ref 0].map some ++ List.replicate (m25.nn - m25.ar) none : Slots) = [some (.ref 0), none, none] := rfl
    rw [sl0]
    by_cases he : k = ns.length
    · have e0 : ns[k]? = none := by simp [he]
      have ed : ns.drop k = [] := by simp [he]
      rw [ed] at h
      simp only [nc, Option.some.injEq] at h
      subst h
      rw [e0] at nm
      refine ⟨k, p, ?_⟩
      have is0 := is k p
      have s0 : exS (Pr.sem (n' + 1)) (.asg (.nm 1) (.mcall 0 22 (.var 0) [.lit (.int 0), .tabL 0])) [some (.ref 0), none, none] (rdS ns k p) = some (.ex (nbad ns []) [some (.ref 0), none, none] (rdS ns k p)) := by
        have kk : (nbad ns []) = ⟨2, [(0, .int (k : Nat))]⟩ := by simp [nbad, he]
        rw [kk]
        generalize rdS ns k p = R at *
        simp [hnf, is0, nm, tj]
      rw [cd_stop s0]
      rfl
    · have h1 : k < ns.length := by omega
      have e0 : ns[k]? = some ns[k] := List.getElem?_eq_getElem h1
      rw [drop_consI h1] at h
      rw [e0] at nm
      simp only at nm
      have hlen : (ns.drop (k + 1)).length + 1 + k = ns.length := by rw [List.length_drop]; omega
      have kbad : ∀ z : List Int, z.length = (ns.drop (k + 1)).length → nbad ns (ns[k] :: z) = ⟨2, [(0, .int (k : Nat))]⟩ := fun z hz => by
        simp only [nbad, List.length_cons]
        congr 3
        congr 1
        omega
      generalize hx : ns[k] = x at *
      unfold nc at h
      have is0 := is k p
      have is1 := is (k + 1) p
      -- a number that may stand here
      have good : ∀ (hx : 0 ≤ x ∧ x ≤ 3), exS (Pr.sem (n' + 1)) (.asg (.nm 1) (.mcall 0 22 (.var 0) [.lit (.int 0), .tabL 0])) [some (.ref 0), none, none] (rdS ns k p) = some (.nx [some (.ref 0), some (.pv (.int x)), none] (rdS ns (k + 1) p)) := fun hx => by
        rw [if_pos hx] at nm
        generalize rdS ns (k + 1) p = R1 at *
        generalize rdS ns k p = R at *
        simp [hnf, is0, nm, tj]
      have leaf : ∀ (c : Nat) (j : Nat), x = (j : Int) + 1 → j ≤ 2 → atI [([66] : Sg), [67], [73]] (j : Int) = some [c] → some (Except.ok (Cd.leaf c, ns.drop (k + 1), p) : NRes) = some r → NR ns r (endR (exSs (Pr.sem (n' + 1)) [.asg (.nm 1) (.mcall 0 22 (.var 0) [.lit (.int 0), .tabL 0]), .iff (.cmp .gt (.var 1) (.lit (.int 0))) [.ret (.tabI 0 (.bin .sub (.var 1) (.lit (.int 1))))] [], .ex (.mcall 0 24 (.var 0) [.glb 0]), .asg (.nm 2) (.mcall 0 25 (.var 0) []), .ret (.tup [.var 2, .mcall 0 25 (.var 0) []])] [some (.ref 0), none, none] (rdS ns k p))) := fun c j ej hj ha e => by
        simp only [Option.some.injEq] at e
        subst e
        refine ⟨k + 1, by omega, rfl, ?_⟩
        have s1 : exS (Pr.sem (n' + 1)) (.iff (.cmp .gt (.var 1) (.lit (.int 0))) [.ret (.tabI 0 (.bin .sub (.var 1) (.lit (.int 1))))] []) [some (.ref 0), some (.pv (.int x)), none] (rdS ns (k + 1) p) = some (.rt (.pv (.str [c])) (rdS ns (k + 1) p)) := by
          have h0 : (0 : Int) < x := by omega
          have ex : x - 1 = (j : Int) := by omega
          generalize rdS ns (k + 1) p = R1 at *
          simp [h0, tj, ex, ha]
        rw [cd_picks (good ⟨by omega, by omega⟩), cd_rt s1]
        rfl
      by_cases h0 : x = 0
      · rw [if_pos h0] at h
        have pt := part_ok (n := n') (ns := ns) (k := k + 1) (p := p)
        have s1 : exS (Pr.sem (n' + 1)) (.iff (.cmp .gt (.var 1) (.lit (.int 0))) [.ret (.tabI 0 (.bin .sub (.var 1) (.lit (.int 1))))] []) [some (.ref 0), some (.pv (.int x)), none] (rdS ns (k + 1) p) = some (.nx [some (.ref 0), some (.pv (.int x)), none] (rdS ns (k + 1) p)) := by
          have h0' : ¬ (0 : Int) < x := by omega
          simp [h0']
        have gj : (Pr.sem (n' + 1)).glb 0 = some (.int 120) := rfl
        rw [cd_picks (good ⟨by omega, by omega⟩), cd_picks s1]
        by_cases hp : 120 < p + 1
        · rw [if_pos hp] at h pt
          simp only [Option.some.injEq] at h
          subst h
          refine ⟨k + 1, p + 1, ?_⟩
          have kk := kbad (ns.drop (k + 1)) rfl
          rw [kk]
          have ek : ((k + 1 : Nat) : Int) - 1 = (k : Int) := by omega
          rw [ek] at pt
          have s2 : exS (Pr.sem (n' + 1)) (.ex (.mcall 0 24 (.var 0) [.glb 0])) [some (.ref 0), some (.pv (.int x)), none] (rdS ns (k + 1) p) = some (.ex ⟨2, [(0, .int (k : Nat))]⟩ [some (.ref 0), some (.pv (.int x)), none] (rdS ns (k + 1) (p + 1))) := by
            generalize rdS ns (k + 1) (p + 1) = R2 at *
            generalize rdS ns (k + 1) p = R1 at *
            simp [hnf, is1, gj, pt]
          rw [cd_stop s2]
          rfl
        · rw [if_neg hp] at h pt
          have s2 : exS (Pr.sem (n' + 1)) (.ex (.mcall 0 24 (.var 0) [.glb 0])) [some (.ref 0), some (.pv (.int x)), none] (rdS ns (k + 1) p) = some (.nx [some (.ref 0), some (.pv (.int x)), none] (rdS ns (k + 1) (p + 1))) := by
            generalize rdS ns (k + 1) (p + 1) = R2 at *
            generalize rdS ns (k + 1) p = R1 at *
            simp [hnf, is1, gj, pt]
          rw [cd_picks s2]
          have is2 := is (k + 1) (p + 1)
          cases q1 : nc m (p + 1) (ns.drop (k + 1)) with
          | none => rw [q1] at h; cases h
          | some r1 =>
            have i1 := nr_call (code_ok_n m (n' + 1) (p + 1) ns (k + 1) r1 (by omega) q1 (by omega))
            rw [q1] at h
            cases r1 with
            | error q =>
              simp only [Option.some.injEq] at h
              subst h
              obtain ⟨k', p', i1⟩ := i1
              refine ⟨k', p', ?_⟩
              have s3 : exS (Pr.sem (n' + 1)) (.asg (.nm 2) (.mcall 0 25 (.var 0) [])) [some (.ref 0), some (.pv (.int x)), none] (rdS ns (k + 1) (p + 1)) = some (.ex (nbad ns q) [some (.ref 0), some (.pv (.int x)), none] (rdS ns k' p')) := by
                generalize rdS ns (k + 1) (p + 1) = R2 at *
                generalize rdS ns k' p' = R3 at *
                simp [hnf, is2, i1]
              rw [cd_stop s3]
              rfl
            | ok v =>
              obtain ⟨f, r1, p1⟩ := v
              obtain ⟨k1, l1, d1, i1⟩ := i1
              have s3 : exS (Pr.sem (n' + 1)) (.asg (.nm 2) (.mcall 0 25 (.var 0) [])) [some (.ref 0), some (.pv (.int x)), none] (rdS ns (k + 1) (p + 1)) = some (.nx [some (.ref 0), some (.pv (.int x)), some (.pv f.tree)] (rdS ns k1 p1)) := by
                generalize rdS ns (k + 1) (p + 1) = R2 at *
                generalize rdS ns k1 p1 = R3 at *
                simp [hnf, is2, i1]
              rw [cd_picks s3]
              simp only at h
              rw [← d1] at h
              have is3 := is k1 p1
              cases q2 : nc m p1 (ns.drop k1) with
              | none => rw [q2] at h; cases h
              | some r2 =>
                have i2 := nr_call (code_ok_n m (n' + 1) p1 ns k1 r2 (by omega) q2 (by omega))
                rw [q2] at h
                cases r2 with
                | error q =>
                  simp only [Option.some.injEq] at h
                  subst h
                  obtain ⟨k', p', i2⟩ := i2
                  refine ⟨k', p', ?_⟩
                  have s4 : exS (Pr.sem (n' + 1)) (.ret (.tup [.var 2, .mcall 0 25 (.var 0) []])) [some (.ref 0), some (.pv (.int x)), some (.pv f.tree)] (rdS ns k1 p1) = some (.ex (nbad ns q) [some (.ref 0), some (.pv (.int x)), some (.pv f.tree)] (rdS ns k' p')) := by
                    generalize rdS ns k1 p1 = R2 at *
                    generalize rdS ns k' p' = R3 at *
                    simp [hnf, is3, i2]
                  rw [cd_stop s4]
                  rfl
                | ok v2 =>
                  obtain ⟨g, r2, p2⟩ := v2
                  simp only [Option.some.injEq] at h
                  subst h
                  obtain ⟨k2, l2, d2, i2⟩ := i2
                  refine ⟨k2, l2, d2, ?_⟩
                  have s4 : exS (Pr.sem (n' + 1)) (.ret (.tup [.var 2, .mcall 0 25 (.var 0) []])) [some (.ref 0), some (.pv (.int x)), some (.pv f.tree)] (rdS ns k1 p1) = some (.rt (.pv (Cd.node f g).tree) (rdS ns k2 p2)) := by
                    generalize rdS ns k1 p1 = R2 at *
                    generalize rdS ns k2 p2 = R3 at *
                    simp [hnf, is3, i2, Cd.tree]
                  rw [cd_rt s4]
                  rfl
      · rw [if_neg h0] at h
        by_cases h1 : x = 1
        · rw [if_pos h1] at h; exact leaf 66 0 (by omega) (by omega) rfl h
        · rw [if_neg h1] at h
          by_cases h2 : x = 2
          · rw [if_pos h2] at h; exact leaf 67 1 (by omega) (by omega) rfl h
          · rw [if_neg h2] at h
            by_cases h3 : x = 3
            · rw [if_pos h3] at h; exact leaf 73 2 (by omega) (by omega) rfl h
            · rw [if_neg h3] at h
              simp only [Option.some.injEq] at h
              subst h
              rw [if_neg (by omega)] at nm
              refine ⟨k, p, ?_⟩
              rw [kbad (ns.drop (k + 1)) rfl]
              have s0 : exS (Pr.sem (n' + 1)) (.asg (.nm 1) (.mcall 0 22 (.var 0) [.lit (.int 0), .tabL 0])) [some (.ref 0), none, none] (rdS ns k p) = some (.ex ⟨2, [(0, .int (k : Nat))]⟩ [some (.ref 0), none, none] (rdS ns k p)) := by
                generalize rdS ns k p = R at *
                simp [hnf, is0, nm, tj]
              rw [cd_stop s0]
              rfl
end Z53
end

section
namespace Z53
open Z
/-! ### code_of_bytes -/
theorem ints_of (ns : List Int) : intsOf (ns.map .int) = some ns := by
  induction ns with
  | nil => rfl
  | cons n ns ih => simp [intsOf, ih]
theorem sum_ints (ns : List Int) : doBI .sum [.lst (ns.map .int)] = some (.int ns.sum) := by simp only [doBI, ints_of, Option.map_some]
theorem cut_ints {ns : List Int} {k : Nat} (h : k ≤ ns.length) : cut (ns.map PV.int) none (some (k : Int)) = (ns.take k).map .int := by rw [cut_to _ (by rw [List.length_map]; exact h), List.map_take]
def dueN (ns : List Int) (k : Nat) : Int := (ns.take k).sum % 251
def cfin (ns : List Int) (c : Cd) : List Int → Except (List Int) Cd
  | [] => .error []
  | y :: q => if y = dueN ns (ns.length - (q.length + 1)) then (match q with
      | [] => .ok c
      | z :: s => .error (z :: s)) else .error (y :: q)
def bfin (ns : List Int) : Except (List Int) Cd := match ns with
  | [] => .error []
  | x :: r => if x = 79 then (match nc 122 1 r with
      | some (.ok (c, q, _)) => cfin ns c q
      | some (.error q) => .error q
      | none => .error []) else .error (x :: r)
section
variable {n : Nat} {ns : List Int} {k p : Nat}
theorem made_rd (n : Nat) (ns : List Int) : (Pr.sem (n + 2)).make 0 21 [.pv (.lst (ns.map .int))] [] = some (.ok (.ref 0) (rdS ns 0 0)) := by kernel_rfl
theorem chk_ok (c : Cd) (hk : k ≤ ns.length) : ∃ k', (Pr.sem (n + 2)).call 23 [.ref 0] (rdS ns k p) = (match cfin ns c (ns.drop k) with
    | .ok _ => some (.ok (.pv .non) (rdS ns k' p))
    | .error q => some (.ex (nbad ns q) (rdS ns k' p))) := by
  have hnf : (Pr.sem (n + 1)).nf = 3 := rfl
  have is := fun k p => rd_is (ns := ns) (k := k) (p := p) 3 (Nat.le_refl _)
  have nm := number_ok (n := n) (ns := ns) (k := k) (p := p) (dueN ns k) (dueN ns k) hk
  have gm : (Pr.sem (n + 1)).glb 2 = some (.int 251) := rfl
  have ct := cut_ints hk
  have sm := sum_ints (ns.take k)
  rw [List.map_take] at sm ct
  have md : doBin .mod (.int (ns.take k).sum) (.int 251) = some (.int (dueN ns k)) := rfl
  have f0 := rd_f0 (ns := ns) (k := k) (p := p)
  have f1 := rd_f1 (ns := ns) (k := k) (p := p)
  have is0 := is k p
  have sl0 : ([LV.ref 0].map some ++ List.replicate (m23.nn - m23.ar) none : Slots) = [some (.ref 0), none] := rfl
  have hb : m23.body = [.asg (.nm 1) (.bin .mod (.bi .sum [.slc (.fld 0 (.var 0) 1) false (.lit .non) true (.fld 0 (.var 0) 0)]) (.glb 2)), .ex (.mcall 0 22 (.var 0) [.var 1, .var 1]), .iff (.cmp .lt (.fld 0 (.var 0) 0) (.bi .len [.fld 0 (.var 0) 1])) [.raise 2 [.fld 0 (.var 0) 0]] []] := rfl
  have s0 : exS (Pr.sem (n + 1)) (.asg (.nm 1) (.bin .mod (.bi .sum [.slc (.fld 0 (.var 0) 1) false (.lit .non) true (.fld 0 (.var 0) 0)]) (.glb 2))) [some (.ref 0), none] (rdS ns k p) = some (.nx [some (.ref 0), some (.pv (.int (dueN ns k)))] (rdS ns k p)) := by
    generalize rdS ns k p = R at *
    simp [hnf, is0, f0, f1, ct, sm, gm, md, optL]
  by_cases he : k = ns.length
  · have e0 : ns[k]? = none := by simp [he]
    have ed : ns.drop k = [] := by simp [he]
    rw [ed]
    rw [e0] at nm
    refine ⟨k, callx_len rfl ?_ rfl⟩
    rw [cal_eq Pr (n + 1) 23 m23 _ _ rfl rfl, hb, sl0, cd_picks s0]
    have kk : (nbad ns []) = ⟨2, [(0, .int (k : Nat))]⟩ := by simp [nbad, he]
    have s1 : exS (Pr.sem (n + 1)) (.ex (.mcall 0 22 (.var 0) [.var 1, .var 1])) [some (.ref 0), some (.pv (.int (dueN ns k)))] (rdS ns k p) = some (.ex (nbad ns []) [some (.ref 0), some (.pv (.int (dueN ns k)))] (rdS ns k p)) := by
      rw [kk]
      generalize rdS ns k p = R at *
      simp [hnf, is0, nm]
    rw [cd_stop s1]
    rfl
  · have h1 : k < ns.length := by omega
    have e0 : ns[k]? = some ns[k] := List.getElem?_eq_getElem h1
    rw [drop_consI h1]
    rw [e0] at nm
    simp only at nm
    have hlen : (ns.drop (k + 1)).length + 1 + k = ns.length := by rw [List.length_drop]; omega
    have kbad : nbad ns (ns[k] :: ns.drop (k + 1)) = ⟨2, [(0, .int (k : Nat))]⟩ := by
      simp only [nbad, List.length_cons]
      congr 3
      congr 1
      omega
    simp only [cfin]
    rw [show ns.length - ((ns.drop (k + 1)).length + 1) = k by omega]
    by_cases hx : ns[k] = dueN ns k
    · rw [if_pos hx]
      rw [if_pos (by omega)] at nm
      have s1 : exS (Pr.sem (n + 1)) (.ex (.mcall 0 22 (.var 0) [.var 1, .var 1])) [some (.ref 0), some (.pv (.int (dueN ns k)))] (rdS ns k p) = some (.nx [some (.ref 0), some (.pv (.int (dueN ns k)))] (rdS ns (k + 1) p)) := by
        generalize rdS ns (k + 1) p = R1 at *
        generalize rdS ns k p = R at *
        simp [hnf, is0, nm]
      have is1 := is (k + 1) p
      have f0' := rd_f0 (ns := ns) (k := k + 1) (p := p)
      have f1' := rd_f1 (ns := ns) (k := k + 1) (p := p)
      cases hd : ns.drop (k + 1) with
      | nil =>
        refine ⟨k + 1, call_len rfl ?_ rfl⟩
        rw [cal_eq Pr (n + 1) 23 m23 _ _ rfl rfl, hb, sl0, cd_picks s0, cd_picks s1]
        have hl : ¬ (((k + 1 : Nat) : Int) < (ns.length : Int)) := by
          rw [hd] at hlen
          simp at hlen
          omega
        generalize rdS ns (k + 1) p = R1 at *
        simp only [Int.natCast_add, Int.natCast_one] at hl f1'
        simp [hnf, is1, f0', f1', hl]
      | cons z s =>
        refine ⟨k + 1, callx_len rfl ?_ rfl⟩
        rw [cal_eq Pr (n + 1) 23 m23 _ _ rfl rfl, hb, sl0, cd_picks s0, cd_picks s1]
        have hl' : s.length + 1 + 1 + k = ns.length := by
          rw [hd] at hlen
          simpa using hlen
        have hl : ((k + 1 : Nat) : Int) < (ns.length : Int) := by omega
        have kk : (nbad ns (z :: s)) = ⟨2, [(0, .int ((k : Int) + 1))]⟩ := by
          simp only [nbad, List.length_cons]
          congr 3
          congr 1
          omega
        rw [kk]
        have xi := xinB (n + 1)
        generalize rdS ns (k + 1) p = R1 at *
        simp only [Int.natCast_add, Int.natCast_one] at hl f1'
        simp [hnf, is1, f0', f1', hl, xi, extP]
    · rw [if_neg hx]
      rw [if_neg (by omega)] at nm
      refine ⟨k, callx_len rfl ?_ rfl⟩
      rw [cal_eq Pr (n + 1) 23 m23 _ _ rfl rfl, hb, sl0, cd_picks s0, kbad]
      have s1 : exS (Pr.sem (n + 1)) (.ex (.mcall 0 22 (.var 0) [.var 1, .var 1])) [some (.ref 0), some (.pv (.int (dueN ns k)))] (rdS ns k p) = some (.ex ⟨2, [(0, .int (k : Nat))]⟩ [some (.ref 0), some (.pv (.int (dueN ns k)))] (rdS ns k p)) := by
        generalize rdS ns k p = R at *
        simp [hnf, is0, nm]
      rw [cd_stop s1]
      rfl
theorem bytes_ok (hn : 125 ≤ n) (ns : List Int) : ∃ st, Pr.cal (n + 1) 9 [.pv (.lst (ns.map .int))] [] = (match bfin ns with
    | .ok c => some (.ok (.pv c.tree) st)
    | .error q => some (.ex (nbad ns q) st)) := by
  obtain ⟨n, rfl⟩ : ∃ j, n = j + 2 := ⟨n - 2, by omega⟩
  rw [cal_eq Pr (n + 2) 9 m9 _ _ rfl rfl]
  have hnf : (Pr.sem (n + 2)).nf = 3 := rfl
  have mk := made_rd n ns
  have hb : m9.body = [.asg (.nm 1) (.new 0 21 [.var 0]), .ex (.mcall 0 22 (.var 1) [.glb 1, .glb 1]), .fset 0 (.var 1) 2 (.lit (.int 1)), .asg (.nm 2) (.mcall 0 25 (.var 1) []), .ex (.mcall 0 23 (.var 1) []), .ret (.var 2)] := rfl
  have gm : (Pr.sem (n + 2)).glb 1 = some (.int 79) := rfl
  have sl0 : ([LV.pv (.lst (ns.map .int))].map some ++ List.replicate (m9.nn - m9.ar) none : Slots) = [some (.pv (.lst (ns.map .int))), none, none] := rfl
  have nm := number_ok (n := n + 1) (ns := ns) (k := 0) (p := 0) 79 79 (Nat.zero_le _)
  have is := fun k p => rd_is (ns := ns) (k := k) (p := p) 3 (Nat.le_refl _)
  have is0 := is 0 0
  rw [hb, sl0]
  have s0 : exS (Pr.sem (n + 2)) (.asg (.nm 1) (.new 0 21 [.var 0])) [some (.pv (.lst (ns.map .int))), none, none] [] = some (.nx [some (.pv (.lst (ns.map .int))), some (.ref 0), none] (rdS ns 0 0)) := by
    generalize rdS ns 0 0 = R at *
    simp [mk]
  rw [cd_picks s0]
  have sx : ∀ q, (Pr.sem (n + 2)).call 22 [.ref 0, .pv (.int 79), .pv (.int 79)] (rdS ns 0 0) = some (.ex (nbad ns q) (rdS ns 0 0)) → exS (Pr.sem (n + 2)) (.ex (.mcall 0 22 (.var 1) [.glb 1, .glb 1])) [some (.pv (.lst (ns.map .int))), some (.ref 0), none] (rdS ns 0 0) = some (.ex (nbad ns q) [some (.pv (.lst (ns.map .int))), some (.ref 0), none] (rdS ns 0 0)) := fun q e => by
    generalize rdS ns 0 0 = R at *
    simp [hnf, is0, gm, e]
  cases ns with
  | nil =>
    refine ⟨rdS [] 0 0, ?_⟩
    have nm' : (Pr.sem (n + 2)).call 22 [.ref 0, .pv (.int 79), .pv (.int 79)] (rdS [] 0 0) = some (.ex (nbad [] []) (rdS [] 0 0)) := nm
    rw [cd_stop (sx [] nm')]
    rfl
  | cons x r =>
    simp only [List.getElem?_cons_zero] at nm
    simp only [bfin]
    by_cases hx : x = 79
    · rw [if_pos hx]
      rw [if_pos (by omega)] at nm
      have s1 : exS (Pr.sem (n + 2)) (.ex (.mcall 0 22 (.var 1) [.glb 1, .glb 1])) [some (.pv (.lst ((x :: r).map .int))), some (.ref 0), none] (rdS (x :: r) 0 0) = some (.nx [some (.pv (.lst ((x :: r).map .int))), some (.ref 0), none] (rdS (x :: r) 1 0)) := by
        generalize rdS (x :: r) (0 + 1) 0 = R1 at *
        generalize rdS (x :: r) 0 0 = R at *
        simp [hnf, is0, gm, nm]
      have is1 := is 1 0
      have st := rd_s2 (ns := x :: r) (k := 1) (p := 0) 1
      have s2 : exS (Pr.sem (n + 2)) (.fset 0 (.var 1) 2 (.lit (.int 1))) [some (.pv (.lst ((x :: r).map .int))), some (.ref 0), none] (rdS (x :: r) 1 0) = some (.nx [some (.pv (.lst ((x :: r).map .int))), some (.ref 0), none] (rdS (x :: r) 1 1)) := by
        generalize rdS (x :: r) 1 1 = R1 at *
        generalize rdS (x :: r) 1 0 = R at *
        simp at st
        simp [hnf, is1, st]
      rw [cd_picks s1, cd_picks s2]
      have is2 := is 1 1
      obtain ⟨res, eres⟩ := nc_some 122 1 r (by omega) (by omega)
      have rr := nr_call (code_ok_n 122 (n + 2) 1 (x :: r) 1 res (by simp) (by simpa using eres) (by omega))
      rw [eres]
      cases res with
      | error q =>
        obtain ⟨k', p', e⟩ := rr
        refine ⟨rdS (x :: r) k' p', ?_⟩
        have s3 : exS (Pr.sem (n + 2)) (.asg (.nm 2) (.mcall 0 25 (.var 1) [])) [some (.pv (.lst ((x :: r).map .int))), some (.ref 0), none] (rdS (x :: r) 1 1) = some (.ex (nbad (x :: r) q) [some (.pv (.lst ((x :: r).map .int))), some (.ref 0), none] (rdS (x :: r) k' p')) := by
          generalize rdS (x :: r) k' p' = R1 at *
          generalize rdS (x :: r) 1 1 = R at *
          simp [hnf, is2, e]
        rw [cd_stop s3]
        rfl
      | ok v =>
        obtain ⟨c, q, p'⟩ := v
        obtain ⟨k', l', d', e⟩ := rr
        have s3 : exS (Pr.sem (n + 2)) (.asg (.nm 2) (.mcall 0 25 (.var 1) [])) [some (.pv (.lst ((x :: r).map .int))), some (.ref 0), none] (rdS (x :: r) 1 1) = some (.nx [some (.pv (.lst ((x :: r).map .int))), some (.ref 0), some (.pv c.tree)] (rdS (x :: r) k' p')) := by
          generalize rdS (x :: r) k' p' = R1 at *
          generalize rdS (x :: r) 1 1 = R at *
          simp [hnf, is2, e]
        rw [cd_picks s3]
        obtain ⟨k2, ck⟩ := chk_ok (n := n) (ns := x :: r) (k := k') (p := p') c (by omega)
        rw [d'] at ck
        have is3 := is k' p'
        refine ⟨rdS (x :: r) k2 p', ?_⟩
        simp only
        cases hc : cfin (x :: r) c q with
        | error q2 =>
          rw [hc] at ck
          have s4 : exS (Pr.sem (n + 2)) (.ex (.mcall 0 23 (.var 1) [])) [some (.pv (.lst ((x :: r).map .int))), some (.ref 0), some (.pv c.tree)] (rdS (x :: r) k' p') = some (.ex (nbad (x :: r) q2) [some (.pv (.lst ((x :: r).map .int))), some (.ref 0), some (.pv c.tree)] (rdS (x :: r) k2 p')) := by
            generalize rdS (x :: r) k2 p' = R1 at *
            generalize rdS (x :: r) k' p' = R at *
            simp [hnf, is3, ck]
          rw [cd_stop s4]
          rfl
        | ok c2 =>
          rw [hc] at ck
          have ec : c2 = c := by
            unfold cfin at hc
            split at hc
            · cases hc
            · split at hc
              · split at hc
                · cases hc; rfl
                · cases hc
              · cases hc
          subst ec
          have s4 : exS (Pr.sem (n + 2)) (.ex (.mcall 0 23 (.var 1) [])) [some (.pv (.lst ((x :: r).map .int))), some (.ref 0), some (.pv c2.tree)] (rdS (x :: r) k' p') = some (.nx [some (.pv (.lst ((x :: r).map .int))), some (.ref 0), some (.pv c2.tree)] (rdS (x :: r) k2 p')) := by
            generalize rdS (x :: r) k2 p' = R1 at *
            generalize rdS (x :: r) k' p' = R at *
            simp [hnf, is3, ck]
          have s5 : exS (Pr.sem (n + 2)) (.ret (.var 2)) [some (.pv (.lst ((x :: r).map .int))), some (.ref 0), some (.pv c2.tree)] (rdS (x :: r) k2 p') = some (.rt (.pv c2.tree) (rdS (x :: r) k2 p')) := by
            simp
          rw [cd_picks s4, cd_rt s5]
          rfl
    · rw [if_neg hx]
      rw [if_neg (by omega)] at nm
      refine ⟨rdS (x :: r) 0 0, ?_⟩
      have nm' : (Pr.sem (n + 2)).call 22 [.ref 0, .pv (.int 79), .pv (.int 79)] (rdS (x :: r) 0 0) = some (.ex (nbad (x :: r) (x :: r)) (rdS (x :: r) 0 0)) := by
        rw [nm]
        simp [nbad]
      rw [cd_stop (sx (x :: r) nm')]
      rfl
end
end Z53
end

section
namespace Z53
open Z
/-! ### the law's own reading: heaps that are open -/
section
variable {S : Sem} {φ : Slots} {st : Store} {i : Nat}
theorem isn_t {c : Cd} (h : φ[i]? = some (some (.pv c.tree))) : evT S (.isn true (.var i)) φ st = some (.ok true st) := by
  cases c <;> simp [h, Cd.tree]
theorem isn_n (h : φ[i]? = some (some (.pv .non))) : evT S (.isn true (.var i)) φ st = some (.ok false st) := by
  simp [h]
end
abbrev tr (h : List Cd) : List LV := h.map fun c => .pv c.tree
def col : List (List Cd) → Cd → List (List Cd) × Cd
  | [] , c => ([], c)
  | [f] :: r, c => col r (.node f c)
  | h :: r, c => (h :: r, c)
def dpt : List (List Cd) × Cd → List (List Cd) × Option Cd
  | ([], c) => ([], some c)
  | (h :: r, c) => ((h ++ [c]) :: r, none)
def dlv (hs : List (List Cd)) (c : Cd) : List (List Cd) × Option Cd := dpt (col hs c)
def low (hs : List (List Cd)) : Prop := ∀ h ∈ hs, h.length ≤ 1
theorem col_low : ∀ {hs : List (List Cd)} {c : Cd}, low hs → low (col hs c).1 ∧ (col hs c).1.length ≤ hs.length
  | [], _, h => ⟨h, Nat.le_refl _⟩
  | [] :: r, c, h => ⟨h, Nat.le_refl _⟩
  | [f] :: r, c, h => by
    obtain ⟨a, b⟩ := col_low (hs := r) (c := .node f c) fun x hx => h x (by simp [hx])
    exact ⟨a, by simp only [col, List.length_cons]; omega⟩
  | (f :: g :: t) :: r, c, h => ⟨h, Nat.le_refl _⟩
theorem col_top {hs : List (List Cd)} {c : Cd} {h : List Cd} {r : List (List Cd)} {d : Cd} : low hs → col hs c = (h :: r, d) → h = [] := by
  induction hs generalizing c with
  | nil => intro _ e; cases e
  | cons x hs ih =>
    intro hl e
    match x with
    | [] => cases e; rfl
    | [f] => exact ih (fun y hy => hl y (by simp [hy])) e
    | f :: g :: t => have := hl (f :: g :: t) (by simp); simp at this
theorem dlv_low {hs : List (List Cd)} {c : Cd} (h : low hs) : low (dlv hs c).1 ∧ (dlv hs c).1.length ≤ hs.length := by
  obtain ⟨a, b⟩ := col_low (c := c) h
  unfold dlv
  cases e : col hs c with
  | mk x d =>
    rw [e] at a b
    cases x with
    | nil => exact ⟨a, b⟩
    | cons y r =>
      have := col_top h e
      subst this
      refine ⟨fun z hz => ?_, b⟩
      rcases List.mem_cons.mp hz with q | q
      · subst q; simp
      · exact a z (by simp [q])
abbrev dsl (ns : List Int) (w j k : Nat) (a5 a6 a7 a8 : Option LV) : Slots := [some (.pv (.lst (ns.map .int))), some (.pv (.int (w : Nat))), some (.pv (.int (j : Nat))), some (.ref 0), some (.pv (.int (k : Nat))), a5, a6, a7, a8]
abbrev colB : List MS := [.iff (.boolop true [.isn true (.var 6), .cmp .eq (.bi .len [.idx (.var 3) (.neg (.lit (.int 1)))]) (.lit (.int 1))]) [.asg (.nm 6) (.tup [.idx (.bm .pop0 (.var 3) []) (.lit (.int 0)), .var 6])] []]
abbrev duB : List MS := [.iff (.cmp .gt (.var 1) (.lit (.int 0))) [.iff (.boolop false [.cmp .eq (.var 4) (.bi .len [.var 0]), .not (.chain .le .le (.lit (.int 0)) (.idx (.var 0) (.var 4)) (.lit (.int 3)))]) [.ret (.tup [.lit (.str [98, 97, 100]), .var 4])] [], .asg (.nm 6) (.lit (.non)), .iff (.cmp .eq (.idx (.var 0) (.var 4)) (.lit (.int 0))) [.aug 1 .add (.lit (.int 1)), .aug 2 .add (.lit (.int 1)), .iff (.cmp .gt (.var 2) (.lit (.int 120))) [.ret (.tup [.lit (.str [98, 97, 100]), .var 4])] [], .ex (.bm .append (.var 3) [.lst true []])] [.asg (.nm 6) (.idx (.lit (.str [45, 66, 67, 73])) (.idx (.var 0) (.var 4))), .aug 1 .sub (.lit (.int 1))], .for_ (.nm 7) .range [.bi .len [.var 3]] [.iff (.boolop true [.isn true (.var 6), .cmp .eq (.bi .len [.idx (.var 3) (.neg (.lit (.int 1)))]) (.lit (.int 1))]) [.asg (.nm 6) (.tup [.idx (.bm .pop0 (.var 3) []) (.lit (.int 0)), .var 6])] []], .iff (.boolop true [.isn true (.var 6), .cmp .gt (.bi .len [.var 3]) (.lit (.int 0))]) [.ex (.bm .append (.idx (.var 3) (.neg (.lit (.int 1)))) [.var 6]), .asg (.nm 6) (.lit (.non))] [], .aug 4 .add (.lit (.int 1)), .iff (.cmp .eq (.var 1) (.lit (.int 0))) [.asg (.nm 8) (.var 6)] []] []]
section
variable {S : Sem} {ns : List Int} {w j k : Nat}
theorem col_none (a5 a8 : Option LV) : ∀ (xs : List PV) (a7 : Option LV) (st : Store), ∃ b7, forLoop (forStep S (.nm 7) colB) xs (dsl ns w j k a5 (some (.pv .non)) a7 a8) st = some (.nx (dsl ns w j k a5 (some (.pv .non)) b7 a8) st)
  | [], a7, st => ⟨a7, rfl⟩
  | x :: xs, a7, st => by
    obtain ⟨b7, ih⟩ := col_none a5 a8 xs (some (.pv x)) st
    refine ⟨b7, ?_⟩
    rw [forLoop_cons]
    have e : forStep S (.nm 7) colB x (dsl ns w j k a5 (some (.pv .non)) a7 a8) st = some (.nx (dsl ns w j k a5 (some (.pv .non)) (some (.pv x)) a8) st) := by simp [forStep]
    rw [e]
    exact ih
theorem col_idle {c : Cd} {st : Store} {rs : List Nat} {h : List Cd} {hs : List (List Cd)} (R : Stack tr st 0 rs (h :: hs)) (hh : h.length ≠ 1) (a5 a8 : Option LV) : ∀ (xs : List PV) (a7 : Option LV), ∃ b7, forLoop (forStep S (.nm 7) colB) xs (dsl ns w j k a5 (some (.pv c.tree)) a7 a8) st = some (.nx (dsl ns w j k a5 (some (.pv c.tree)) b7 a8) st)
  | [], a7 => ⟨a7, rfl⟩
  | x :: xs, a7 => by
    obtain ⟨b7, ih⟩ := col_idle (c := c) R hh a5 a8 xs (some (.pv x))
    refine ⟨b7, ?_⟩
    rw [forLoop_cons]
    cases rs with
    | nil => exact absurd R.cells.len (by simp)
    | cons q rs =>
      have gl := R.getLast
      have ll := R.lenH
      rw [List.length_map] at ll
      have it := isn_t (S := S) (st := st) (i := 6) (c := c) (φ := dsl ns w j k a5 (some (.pv c.tree)) (some (.pv x)) a8) rfl
      have hh' : ¬ ((h.length : Nat) : Int) = 1 := by omega
      have e : forStep S (.nm 7) colB x (dsl ns w j k a5 (some (.pv c.tree)) a7 a8) st = some (.nx (dsl ns w j k a5 (some (.pv c.tree)) (some (.pv x)) a8) st) := by
        simp only [forStep, asgG_nm]
        show exSs S colB (dsl ns w j k a5 (some (.pv c.tree)) (some (.pv x)) a8) st = _
        simp [-evT_isn, it, gl, ll, hh']
      rw [e]
      exact ih
theorem col_loop (a5 a8 : Option LV) : ∀ (hs : List (List Cd)) (c : Cd) (xs : List PV) (rs : List Nat) (st : Store) (a7 : Option LV), Stack tr st 0 rs hs → low hs → xs.length = hs.length → ∃ st' rs' b7, forLoop (forStep S (.nm 7) colB) xs (dsl ns w j k a5 (some (.pv c.tree)) a7 a8) st = some (.nx (dsl ns w j k a5 (some (.pv (col hs c).2.tree)) b7 a8) st') ∧ Stack tr st' 0 rs' (col hs c).1
  | [], c, xs, rs, st, a7, R, _, hl => by
    have : xs = [] := List.length_eq_zero_iff.mp hl
    subst this
    exact ⟨st, rs, a7, rfl, R⟩
  | [] :: r, c, xs, rs, st, a7, R, _, hl => by
    obtain ⟨b7, e⟩ := col_idle (S := S) (ns := ns) (w := w) (j := j) (k := k) (c := c) R (by simp) a5 a8 xs a7
    exact ⟨st, rs, b7, e, R⟩
  | (f :: g :: t) :: r, c, xs, rs, st, a7, R, lo, hl => by
    have := lo (f :: g :: t) (by simp)
    simp at this
  | [f] :: r, c, xs, rs, st, a7, R, lo, hl => by
    cases xs with
    | nil => simp at hl
    | cons x xs =>
      cases rs with
      | nil => exact absurd R.cells.len (by simp)
      | cons q rs =>
        obtain ⟨st', rs', b7, ih, R'⟩ := col_loop a5 a8 r (.node f c) xs rs _ (some (.pv x)) R.pop (fun z hz => lo z (by simp [hz])) (by simpa using hl)
        refine ⟨st', rs', b7, ?_, R'⟩
        rw [forLoop_cons]
        have gl := R.getLast
        have ll := R.lenH
        have it := isn_t (S := S) (st := st) (i := 6) (c := c) (φ := dsl ns w j k a5 (some (.pv c.tree)) (some (.pv x)) a8) rfl
        have bo := bm_pop R.top
        have dp := R.doPop
        have cq := R.pop.cells
        have nd := List.nodup_cons.mp R.nd
        have hq : (st.set 0 (.lst true (rs.reverse.map .ref)))[q]? = some (.lst true (tr [f])) := by
          rw [List.getElem?_set_ne (fun z => nd.1 (by rw [z]; simp))]
          exact R.cells.1
        have gi : getI (.ref q) (.pv (.int 0)) (st.set 0 (.lst true (rs.reverse.map .ref))) = some (.ok (.pv f.tree) (st.set 0 (.lst true (rs.reverse.map .ref)))) := getI_ref hq rfl
        simp at ll
        have e : forStep S (.nm 7) colB x (dsl ns w j k a5 (some (.pv c.tree)) a7 a8) st = some (.nx (dsl ns w j k a5 (some (.pv (Cd.node f c).tree)) (some (.pv x)) a8) (st.set 0 (.lst true (rs.reverse.map .ref)))) := by
          simp only [forStep, asgG_nm]
          show exSs S colB (dsl ns w j k a5 (some (.pv c.tree)) (some (.pv x)) a8) st = _
          generalize st.set 0 (.lst true (rs.reverse.map .ref)) = st1 at *
          simp [-evT_isn, it, gl, ll, bo, dp, gi, Cd.tree]
        rw [e]
        exact ih
end
end Z53
end

section
namespace Z53
open Z
/-! ### a turn of the law's reading -/
abbrev bdP (k : Int) : PV := .tup [.str [98, 97, 100], .int k]
theorem du_eq : duB = [.iff (.cmp .gt (.var 1) (.lit (.int 0))) [.iff (.boolop false [.cmp .eq (.var 4) (.bi .len [.var 0]), .not (.chain .le .le (.lit (.int 0)) (.idx (.var 0) (.var 4)) (.lit (.int 3)))]) [.ret (.tup [.lit (.str [98, 97, 100]), .var 4])] [], .asg (.nm 6) (.lit (.non)), .iff (.cmp .eq (.idx (.var 0) (.var 4)) (.lit (.int 0))) [.aug 1 .add (.lit (.int 1)), .aug 2 .add (.lit (.int 1)), .iff (.cmp .gt (.var 2) (.lit (.int 120))) [.ret (.tup [.lit (.str [98, 97, 100]), .var 4])] [], .ex (.bm .append (.var 3) [.lst true []])] [.asg (.nm 6) (.idx (.lit (.str [45, 66, 67, 73])) (.idx (.var 0) (.var 4))), .aug 1 .sub (.lit (.int 1))], .for_ (.nm 7) .range [.bi .len [.var 3]] [.iff (.boolop true [.isn true (.var 6), .cmp .eq (.bi .len [.idx (.var 3) (.neg (.lit (.int 1)))]) (.lit (.int 1))]) [.asg (.nm 6) (.tup [.idx (.bm .pop0 (.var 3) []) (.lit (.int 0)), .var 6])] []], .iff (.boolop true [.isn true (.var 6), .cmp .gt (.bi .len [.var 3]) (.lit (.int 0))]) [.ex (.bm .append (.idx (.var 3) (.neg (.lit (.int 1)))) [.var 6]), .asg (.nm 6) (.lit (.non))] [], .aug 4 .add (.lit (.int 1)), .iff (.cmp .eq (.var 1) (.lit (.int 0))) [.asg (.nm 8) (.var 6)] []] []] := rfl
section
variable {S : Sem} {ns : List Int} {w j k : Nat} {st : Store}
theorem du_start (z : PV) (a5 a6 a7 a8 : Option LV) : forStep S (.nm 5) duB z (dsl ns (w + 1) j k a5 a6 a7 a8) st = exSs S [.iff (.boolop false [.cmp .eq (.var 4) (.bi .len [.var 0]), .not (.chain .le .le (.lit (.int 0)) (.idx (.var 0) (.var 4)) (.lit (.int 3)))]) [.ret (.tup [.lit (.str [98, 97, 100]), .var 4])] [], .asg (.nm 6) (.lit (.non)), .iff (.cmp .eq (.idx (.var 0) (.var 4)) (.lit (.int 0))) [.aug 1 .add (.lit (.int 1)), .aug 2 .add (.lit (.int 1)), .iff (.cmp .gt (.var 2) (.lit (.int 120))) [.ret (.tup [.lit (.str [98, 97, 100]), .var 4])] [], .ex (.bm .append (.var 3) [.lst true []])] [.asg (.nm 6) (.idx (.lit (.str [45, 66, 67, 73])) (.idx (.var 0) (.var 4))), .aug 1 .sub (.lit (.int 1))], .for_ (.nm 7) .range [.bi .len [.var 3]] [.iff (.boolop true [.isn true (.var 6), .cmp .eq (.bi .len [.idx (.var 3) (.neg (.lit (.int 1)))]) (.lit (.int 1))]) [.asg (.nm 6) (.tup [.idx (.bm .pop0 (.var 3) []) (.lit (.int 0)), .var 6])] []], .iff (.boolop true [.isn true (.var 6), .cmp .gt (.bi .len [.var 3]) (.lit (.int 0))]) [.ex (.bm .append (.idx (.var 3) (.neg (.lit (.int 1)))) [.var 6]), .asg (.nm 6) (.lit (.non))] [], .aug 4 .add (.lit (.int 1)), .iff (.cmp .eq (.var 1) (.lit (.int 0))) [.asg (.nm 8) (.var 6)] []] (dsl ns (w + 1) j k (some (.pv z)) a6 a7 a8) st := by
  simp only [forStep, asgG_nm]
  show exSs S duB (dsl ns (w + 1) j k (some (.pv z)) a6 a7 a8) st = _
  rw [du_eq, exSs_one]
  refine exS_iff_t (st1 := st) ?_
  have : (0 : Int) < ((w + 1 : Nat) : Int) := by omega
  simp only [Int.natCast_add, Int.natCast_one] at this
  simp [this]
theorem du_rest (z : PV) (a5 a6 a7 a8 : Option LV) : forStep S (.nm 5) duB z (dsl ns 0 j k a5 a6 a7 a8) st = some (.nx (dsl ns 0 j k (some (.pv z)) a6 a7 a8) st) := by
  simp only [forStep, asgG_nm]
  show exSs S duB (dsl ns 0 j k (some (.pv z)) a6 a7 a8) st = _
  simp
theorem du_idle : ∀ (xs : List PV) (a5 a6 a7 a8 : Option LV), ∃ b5, forLoop (forStep S (.nm 5) duB) xs (dsl ns 0 j k a5 a6 a7 a8) st = some (.nx (dsl ns 0 j k b5 a6 a7 a8) st)
  | [], a5, _, _, _ => ⟨a5, rfl⟩
  | x :: xs, a5, a6, a7, a8 => by
    obtain ⟨b5, ih⟩ := du_idle xs (some (.pv x)) a6 a7 a8
    refine ⟨b5, ?_⟩
    rw [forLoop_cons, du_rest]
    exact ih
theorem du_badA (hk : k ≤ ns.length) (h : ∀ (hl : k < ns.length), ¬ (0 ≤ ns[k] ∧ ns[k] ≤ 3)) (z : PV) (a5 a6 a7 a8 : Option LV) : forStep S (.nm 5) duB z (dsl ns (w + 1) j k a5 a6 a7 a8) st = some (.rt (.pv (bdP (k : Nat))) st) := by
  rw [du_start]
  by_cases he : k = ns.length
  · have ek : ((k : Int) = ((ns.length : Nat) : Int)) = True := by simp [he]
    refine cd_rt ?_
    simp [ek]
  · have h1 : k < ns.length := by omega
    have ix := atI_map h1
    have h' := h h1
    have ek : ¬ ((k : Int) = ((ns.length : Nat) : Int)) := by omega
    generalize ns[k] = x at *
    refine cd_rt ?_
    by_cases h0 : 0 ≤ x
    · have h3 : ¬ x ≤ 3 := fun z => h' ⟨h0, z⟩
      simp [ek, ix, h0, h3]
    · simp [ek, ix, h0]
theorem du_A (h1 : k < ns.length) (hx : 0 ≤ ns[k] ∧ ns[k] ≤ 3) (a5 a6 a7 a8 : Option LV) : exS S (.iff (.boolop false [.cmp .eq (.var 4) (.bi .len [.var 0]), .not (.chain .le .le (.lit (.int 0)) (.idx (.var 0) (.var 4)) (.lit (.int 3)))]) [.ret (.tup [.lit (.str [98, 97, 100]), .var 4])] []) (dsl ns w j k a5 a6 a7 a8) st = some (.nx (dsl ns w j k a5 a6 a7 a8) st) := by
  have ix := atI_map h1
  have ek : ¬ ((k : Int) = ((ns.length : Nat) : Int)) := by omega
  generalize ns[k] = x at *
  simp [ek, ix, hx]
theorem du_B (a5 a6 a7 a8 : Option LV) : exS S (.asg (.nm 6) (.lit (.non))) (dsl ns w j k a5 a6 a7 a8) st = some (.nx (dsl ns w j k a5 (some (.pv .non)) a7 a8) st) := by
  simp
theorem du_F (a5 a6 a7 a8 : Option LV) : exS S (.aug 4 .add (.lit (.int 1))) (dsl ns w j k a5 a6 a7 a8) st = some (.nx (dsl ns w j (k + 1) a5 a6 a7 a8) st) := by
  have da : doAug .add (.int (k : Int)) (.int 1) = some (.int ((k : Int) + 1)) := rfl
  simp [da]
theorem du_G (a5 a6 a7 a8 : Option LV) (v : PV) : ∃ b8, exS S (.iff (.cmp .eq (.var 1) (.lit (.int 0))) [.asg (.nm 8) (.var 6)] []) (dsl ns w j k a5 (some (.pv v)) a7 a8) st = some (.nx (dsl ns w j k a5 (some (.pv v)) a7 b8) st) ∧ (w = 0 → b8 = some (.pv v)) := by
  by_cases h : w = 0
  · subst h
    exact ⟨some (.pv v), by simp, fun _ => rfl⟩
  · exact ⟨a8, by simp [h], fun z => absurd z h⟩
theorem du_CL (h1 : k < ns.length) {i c : Nat} (hx : ns[k] = (i : Int)) (hi : 0 < i) (hc : ([45, 66, 67, 73] : Sg)[i]? = some c) (a5 a6 a7 a8 : Option LV) : exS S (.iff (.cmp .eq (.idx (.var 0) (.var 4)) (.lit (.int 0))) [.aug 1 .add (.lit (.int 1)), .aug 2 .add (.lit (.int 1)), .iff (.cmp .gt (.var 2) (.lit (.int 120))) [.ret (.tup [.lit (.str [98, 97, 100]), .var 4])] [], .ex (.bm .append (.var 3) [.lst true []])] [.asg (.nm 6) (.idx (.lit (.str [45, 66, 67, 73])) (.idx (.var 0) (.var 4))), .aug 1 .sub (.lit (.int 1))]) (dsl ns (w + 1) j k a5 a6 a7 a8) st = some (.nx (dsl ns w j k a5 (some (.pv (Cd.leaf c).tree)) a7 a8) st) := by
  have ix := atI_map h1
  rw [hx] at ix
  have h0 : ¬ ((i : Int) = 0) := by omega
  have hl : i < 4 := by
    have := (List.getElem?_eq_some_iff.mp hc).1
    simpa using this
  have id := idx_str (s := [45, 66, 67, 73]) (k := i) (by decide) (by simpa using hl)
  rw [hc] at id
  have da : doAug .sub (.int ((w : Int) + 1)) (.int 1) = some (.int ((w : Int) + 1 - 1)) := rfl
  have ew : (w : Int) + 1 - 1 = w := by omega
  rw [ew] at da
  have hi' : ¬ i = 0 := by omega
  simp [ix, h0, hi', id, da, Cd.tree]
theorem du_CN (h1 : k < ns.length) (hx : ns[k] = 0) (hp : j + 1 ≤ 120) {rs : List Nat} {hs : List (List Cd)} (R : Stack tr st 0 rs hs) (hl : hs.length < 1000) (a5 a6 a7 a8 : Option LV) : ∃ st' rs', exS S (.iff (.cmp .eq (.idx (.var 0) (.var 4)) (.lit (.int 0))) [.aug 1 .add (.lit (.int 1)), .aug 2 .add (.lit (.int 1)), .iff (.cmp .gt (.var 2) (.lit (.int 120))) [.ret (.tup [.lit (.str [98, 97, 100]), .var 4])] [], .ex (.bm .append (.var 3) [.lst true []])] [.asg (.nm 6) (.idx (.lit (.str [45, 66, 67, 73])) (.idx (.var 0) (.var 4))), .aug 1 .sub (.lit (.int 1))]) (dsl ns w j k a5 a6 a7 a8) st = some (.nx (dsl ns (w + 1) (j + 1) k a5 a6 a7 a8) st') ∧ Stack tr st' 0 rs' ([] :: hs) := by
  have hline : line = 16777216 := rfl
  have ix := atI_map h1
  rw [hx] at ix
  have dw : doAug .add (.int (w : Int)) (.int 1) = some (.int ((w : Int) + 1)) := rfl
  have dj : doAug .add (.int (j : Int)) (.int 1) = some (.int ((j : Int) + 1)) := rfl
  have hj : ¬ (120 : Int) < (j : Int) + 1 := by omega
  have op := R.doOpen (by omega) []
  have bo := bm_append R.top
  refine ⟨_, _, ?_, R.open_ []⟩
  have et : tr ([] : List Cd) = [] := rfl
  rw [et]
  generalize (st ++ [Cell.lst true []]).set 0 (.lst true ((st.length :: rs).reverse.map .ref)) = st2 at *
  simp [ix, dw, dj, hj, bo, op]
theorem du_CB (h1 : k < ns.length) (hx : ns[k] = 0) (hp : 120 < j + 1) (a5 a6 a7 a8 : Option LV) : exS S (.iff (.cmp .eq (.idx (.var 0) (.var 4)) (.lit (.int 0))) [.aug 1 .add (.lit (.int 1)), .aug 2 .add (.lit (.int 1)), .iff (.cmp .gt (.var 2) (.lit (.int 120))) [.ret (.tup [.lit (.str [98, 97, 100]), .var 4])] [], .ex (.bm .append (.var 3) [.lst true []])] [.asg (.nm 6) (.idx (.lit (.str [45, 66, 67, 73])) (.idx (.var 0) (.var 4))), .aug 1 .sub (.lit (.int 1))]) (dsl ns w j k a5 a6 a7 a8) st = some (.rt (.pv (bdP (k : Nat))) st) := by
  have ix := atI_map h1
  rw [hx] at ix
  have dw : doAug .add (.int (w : Int)) (.int 1) = some (.int ((w : Int) + 1)) := rfl
  have dj : doAug .add (.int (j : Int)) (.int 1) = some (.int ((j : Int) + 1)) := rfl
  have hj : (120 : Int) < (j : Int) + 1 := by omega
  simp [ix, dw, dj, hj]
theorem du_DN {rs : List Nat} {hs : List (List Cd)} (R : Stack tr st 0 rs hs) (hl : hs.length < 1000) (a5 a7 a8 : Option LV) : ∃ b7, exS S (.for_ (.nm 7) .range [.bi .len [.var 3]] [.iff (.boolop true [.isn true (.var 6), .cmp .eq (.bi .len [.idx (.var 3) (.neg (.lit (.int 1)))]) (.lit (.int 1))]) [.asg (.nm 6) (.tup [.idx (.bm .pop0 (.var 3) []) (.lit (.int 0)), .var 6])] []]) (dsl ns w j k a5 (some (.pv .non)) a7 a8) st = some (.nx (dsl ns w j k a5 (some (.pv .non)) b7 a8) st) := by
  have hline : line = 16777216 := rfl
  obtain ⟨b7, e⟩ := col_none (S := S) (ns := ns) (w := w) (j := j) (k := k) a5 a8 ((upto 0 hs.length).map .int) a7 st
  refine ⟨b7, ?_⟩
  have fv := forV_upto (n := hs.length) (by omega) (forStep S (.nm 7) colB) (dsl ns w j k a5 (some (.pv .non)) a7 a8) st
  rw [e] at fv
  have lb := R.lenB
  have ev : evEs S [.bi .len [.var 3]] (dsl ns w j k a5 (some (.pv .non)) a7 a8) st = some (.ok [.pv (.int (hs.length : Nat))] st) := by simp [lb]
  rw [exS_for, ev, Rs.bf_ok, fv]
theorem du_EN (a5 a7 a8 : Option LV) : exS S (.iff (.boolop true [.isn true (.var 6), .cmp .gt (.bi .len [.var 3]) (.lit (.int 0))]) [.ex (.bm .append (.idx (.var 3) (.neg (.lit (.int 1)))) [.var 6]), .asg (.nm 6) (.lit (.non))] []) (dsl ns w j k a5 (some (.pv .non)) a7 a8) st = some (.nx (dsl ns w j k a5 (some (.pv .non)) a7 a8) st) := by
  simp
theorem du_D {rs : List Nat} {hs : List (List Cd)} {c : Cd} (R : Stack tr st 0 rs hs) (lo : low hs) (hl : hs.length < 1000) (a5 a7 a8 : Option LV) : ∃ st' rs' b7, exS S (.for_ (.nm 7) .range [.bi .len [.var 3]] [.iff (.boolop true [.isn true (.var 6), .cmp .eq (.bi .len [.idx (.var 3) (.neg (.lit (.int 1)))]) (.lit (.int 1))]) [.asg (.nm 6) (.tup [.idx (.bm .pop0 (.var 3) []) (.lit (.int 0)), .var 6])] []]) (dsl ns w j k a5 (some (.pv c.tree)) a7 a8) st = some (.nx (dsl ns w j k a5 (some (.pv (col hs c).2.tree)) b7 a8) st') ∧ Stack tr st' 0 rs' (col hs c).1 := by
  have hline : line = 16777216 := rfl
  obtain ⟨st', rs', b7, e, R'⟩ := col_loop (S := S) (ns := ns) (w := w) (j := j) (k := k) a5 a8 hs c ((upto 0 hs.length).map .int) rs st a7 R lo (by rw [List.length_map, upto_length])
  refine ⟨st', rs', b7, ?_, R'⟩
  have fv := forV_upto (n := hs.length) (by omega) (forStep S (.nm 7) colB) (dsl ns w j k a5 (some (.pv c.tree)) a7 a8) st
  rw [e] at fv
  have lb := R.lenB
  have ev : evEs S [.bi .len [.var 3]] (dsl ns w j k a5 (some (.pv c.tree)) a7 a8) st = some (.ok [.pv (.int (hs.length : Nat))] st) := by simp [lb]
  rw [exS_for, ev, Rs.bf_ok, fv]
def oP : Option Cd → PV
  | some c => c.tree
  | none => .non
theorem du_E {rs : List Nat} {hs : List (List Cd)} {c : Cd} (R : Stack tr st 0 rs hs) (hl : hs.length < 1000) (hb : ∀ h ∈ hs, h.length < 1000) (a5 a7 a8 : Option LV) : ∃ st', exS S (.iff (.boolop true [.isn true (.var 6), .cmp .gt (.bi .len [.var 3]) (.lit (.int 0))]) [.ex (.bm .append (.idx (.var 3) (.neg (.lit (.int 1)))) [.var 6]), .asg (.nm 6) (.lit (.non))] []) (dsl ns w j k a5 (some (.pv c.tree)) a7 a8) st = some (.nx (dsl ns w j k a5 (some (.pv (oP (dpt (hs, c)).2))) a7 a8) st') ∧ Stack tr st' 0 rs (dpt (hs, c)).1 := by
  have hline : line = 16777216 := rfl
  have it := isn_t (S := S) (st := st) (i := 6) (c := c) (φ := dsl ns w j k a5 (some (.pv c.tree)) a7 a8) rfl
  have lb := R.lenB
  cases hs with
  | nil =>
    refine ⟨st, ?_, R⟩
    simp only [List.length_nil] at lb
    simp [-evT_isn, it, lb, oP, dpt]
  | cons h r =>
    cases rs with
    | nil => exact absurd R.cells.len (by simp)
    | cons q rs =>
      have gl := R.getLast
      have hq := R.cells.1
      have bo := bm_append hq
      have := hb h (by simp)
      have ap := do_append (v := .pv c.tree) hq (by rw [List.length_map]; omega)
      have e : tr h ++ [.pv c.tree] = tr (h ++ [c]) := by simp
      rw [e] at ap
      refine ⟨_, ?_, R.put (h ++ [c])⟩
      have hr : (0 : Int) < ((r.length : Nat) : Int) + 1 := by omega
      generalize st.set q (.lst true (tr (h ++ [c]))) = st1 at *
      simp only [List.length_cons] at lb
      simp [-evT_isn, it, lb, gl, bo, ap, oP, dpt]
/-- a leaf -/
theorem du_leaf (h1 : k < ns.length) {i c : Nat} (hx : ns[k] = (i : Int)) (hi : 0 < i) (hc : ([45, 66, 67, 73] : Sg)[i]? = some c) {rs : List Nat} {hs : List (List Cd)} (R : Stack tr st 0 rs hs) (lo : low hs) (hl : hs.length < 1000) (z : PV) (a5 a6 a7 a8 : Option LV) :
    ∃ st' rs' b6 b7 b8, forStep S (.nm 5) duB z (dsl ns (w + 1) j k a5 a6 a7 a8) st = some (.nx (dsl ns w j (k + 1) (some (.pv z)) b6 b7 b8) st') ∧ Stack tr st' 0 rs' (dlv hs (.leaf c)).1 ∧ (w = 0 → b8 = some (.pv (oP (dlv hs (.leaf c)).2))) := by
  have hi4 : i < 4 := by
    have := (List.getElem?_eq_some_iff.mp hc).1
    simpa using this
  obtain ⟨st1, rs1, b7, e1, R1⟩ := du_D (S := S) (ns := ns) (w := w) (j := j) (k := k) (c := .leaf c) R lo hl (some (.pv z)) a7 a8
  obtain ⟨cl, cn⟩ := col_low (c := .leaf c) lo
  obtain ⟨st2, e2, R2⟩ := du_E (S := S) (ns := ns) (w := w) (j := j) (k := k) (c := (col hs (.leaf c)).2) R1 (by omega) (fun h hh => by have := cl h hh; omega) (some (.pv z)) b7 a8
  have edl : dpt ((col hs (.leaf c)).1, (col hs (.leaf c)).2) = dlv hs (.leaf c) := rfl
  rw [edl] at e2 R2
  obtain ⟨b8, e3, h8⟩ := du_G (S := S) (ns := ns) (w := w) (j := j) (k := k + 1) (st := st2) (some (.pv z)) none b7 a8 (oP (dlv hs (.leaf c)).2)
  refine ⟨st2, rs1, some (.pv (oP (dlv hs (.leaf c)).2)), b7, b8, ?_, R2, h8⟩
  rw [du_start, cd_picks (du_A h1 ⟨by omega, by omega⟩ _ _ _ _), cd_picks (du_B _ _ _ _), cd_picks (du_CL h1 hx hi hc _ _ _ _), cd_picks e1, cd_picks e2, cd_picks (du_F _ _ _ _), cd_picks e3, exSs_nil]
/-- a use is opened -/
theorem du_node (h1 : k < ns.length) (hx : ns[k] = 0) (hp : j + 1 ≤ 120) {rs : List Nat} {hs : List (List Cd)} (R : Stack tr st 0 rs hs) (hl : hs.length < 999) (z : PV) (a5 a6 a7 a8 : Option LV) :
    ∃ st' rs' b6 b7, forStep S (.nm 5) duB z (dsl ns (w + 1) j k a5 a6 a7 a8) st = some (.nx (dsl ns (w + 2) (j + 1) (k + 1) (some (.pv z)) b6 b7 a8) st') ∧ Stack tr st' 0 rs' ([] :: hs) := by
  obtain ⟨st1, rs1, e1, R1⟩ := du_CN (S := S) (ns := ns) (w := w + 1) (j := j) (k := k) h1 hx hp R (by omega) (some (.pv z)) (some (.pv .non)) a7 a8
  obtain ⟨b7, e2⟩ := du_DN (S := S) (ns := ns) (w := w + 2) (j := j + 1) (k := k) R1 (by simp; omega) (some (.pv z)) a7 a8
  obtain ⟨b8, e3, h8⟩ := du_G (S := S) (ns := ns) (w := w + 2) (j := j + 1) (k := k + 1) (st := st1) (some (.pv z)) none b7 a8 .non
  have e3' : exS S (.iff (.cmp .eq (.var 1) (.lit (.int 0))) [.asg (.nm 8) (.var 6)] []) (dsl ns (w + 2) (j + 1) (k + 1) (some (.pv z)) (some (.pv .non)) b7 a8) st1 = some (.nx (dsl ns (w + 2) (j + 1) (k + 1) (some (.pv z)) (some (.pv .non)) b7 a8) st1) := by
    have : ¬ ((w : Int) + 2 = 0) := by omega
    simp [this]
  refine ⟨st1, rs1, some (.pv .non), b7, ?_, R1⟩
  rw [du_start, cd_picks (du_A h1 ⟨by omega, by omega⟩ _ _ _ _), cd_picks (du_B _ _ _ _), cd_picks e1, cd_picks e2, cd_picks (du_EN _ _ _), cd_picks (du_F _ _ _ _), cd_picks e3', exSs_nil]
theorem du_many (h1 : k < ns.length) (hx : ns[k] = 0) (hp : 120 < j + 1) (z : PV) (a5 a6 a7 a8 : Option LV) : forStep S (.nm 5) duB z (dsl ns (w + 1) j k a5 a6 a7 a8) st = some (.rt (.pv (bdP (k : Nat))) st) := by
  rw [du_start, cd_picks (du_A h1 ⟨by omega, by omega⟩ _ _ _ _), cd_picks (du_B _ _ _ _), cd_rt (du_CB h1 hx hp _ _ _ _)]
end
end Z53
end

section
namespace Z53
open Z
/-! ### the law's reading, whole -/
theorem col_node {hs : List (List Cd)} {f g : Cd} : col ([f] :: hs) g = col hs (.node f g) := rfl
theorem dlv_open (hs : List (List Cd)) (f : Cd) : dlv ([] :: hs) f = ([f] :: hs, none) := rfl
theorem dlv_node (hs : List (List Cd)) (f g : Cd) : dlv ([f] :: hs) g = dlv hs (.node f g) := rfl
theorem dlv_empty (c : Cd) : dlv [] c = ([], some c) := rfl
section
variable {S : Sem} {ns : List Int}
def DuR (S : Sem) (ns : List Int) (w p k : Nat) (hs : List (List Cd)) (xs : List PV) (φ : Slots) (st : Store) : NRes → Prop
  | .ok (c, q, p') => ∃ st' rs' k' b5 b6 b7 b8, k' + q.length = ns.length ∧ ns.drop k' = q ∧ forLoop (forStep S (.nm 5) duB) xs φ st = forLoop (forStep S (.nm 5) duB) (xs.drop (k' - k)) (dsl ns w p' k' b5 b6 b7 b8) st' ∧ Stack tr st' 0 rs' (dlv hs c).1 ∧ (w = 0 → b8 = some (.pv (oP (dlv hs c).2)))
  | .error q => ∃ st', forLoop (forStep S (.nm 5) duB) xs φ st = some (.rt (.pv (bdP ((ns.length : Int) - q.length))) st')
theorem du_nc : ∀ (m w p k : Nat) (r : NRes) (hs : List (List Cd)) (rs : List Nat) (xs : List PV) (st : Store) (a5 a6 a7 a8 : Option LV), k ≤ ns.length → nc m p (ns.drop k) = some r → p ≤ 120 → Stack tr st 0 rs hs → low hs → hs.length + 121 < 999 + p → 242 < xs.length + 2 * p → DuR S ns w p k hs xs (dsl ns (w + 1) p k a5 a6 a7 a8) st r
  | 0, _, _, _, _, _, _, _, _, _, _, _, _, _, h, _, _, _, _, _ => by simp [nc] at h
  | m + 1, w, p, k, r, hs, rs, xs, st, a5, a6, a7, a8, hk, h, hp, R, lo, hl, hxs => by
    cases xs with
    | nil => simp at hxs; omega
    | cons z xs =>
      simp only [List.length_cons] at hxs
      by_cases he : k = ns.length
      · have ed : ns.drop k = [] := by simp [he]
        rw [ed] at h
        simp only [nc, Option.some.injEq] at h
        subst h
        refine ⟨st, ?_⟩
        rw [forLoop_cons, du_badA hk (fun z => by omega)]
        simp [he]
      · have h1 : k < ns.length := by omega
        rw [drop_consI h1] at h
        have hlen : (ns.drop (k + 1)).length + 1 + k = ns.length := by rw [List.length_drop]; omega
        have kq : (ns.length : Int) - ((ns.drop (k + 1)).length + 1 : Nat) = (k : Int) := by omega
        have ndr : ns.drop (k + 1) = ns.drop (k + 1) := rfl
        have leaf : ∀ (i c : Nat), ns[k] = (i : Int) → 0 < i → ([45, 66, 67, 73] : Sg)[i]? = some c → some (Except.ok (Cd.leaf c, ns.drop (k + 1), p) : NRes) = some r → DuR S ns w p k hs (z :: xs) (dsl ns (w + 1) p k a5 a6 a7 a8) st r := fun i c hx hi hc e => by
          simp only [Option.some.injEq] at e
          subst e
          obtain ⟨st', rs', b6, b7, b8, e1, R1, h8⟩ := du_leaf (S := S) (w := w) (j := p) h1 hx hi hc R lo (by omega) z a5 a6 a7 a8
          refine ⟨st', rs', k + 1, some (.pv z), b6, b7, b8, by omega, rfl, ?_, R1, h8⟩
          rw [forLoop_cons, e1, Nat.add_sub_cancel_left]
          rfl
        unfold nc at h
        by_cases h0 : ns[k] = 0
        · rw [if_pos h0] at h
          by_cases hp2 : 120 < p + 1
          · rw [if_pos hp2] at h
            simp only [Option.some.injEq] at h
            subst h
            refine ⟨st, ?_⟩
            rw [forLoop_cons, du_many h1 h0 hp2, List.length_cons, kq]
          · rw [if_neg hp2] at h
            obtain ⟨st1, rs1, b6, b7, e1, R1⟩ := du_node (S := S) (w := w) (j := p) h1 h0 (by omega) R (by omega) z a5 a6 a7 a8
            have lo1 : low ([] :: hs) := fun x hx => by
              rcases List.mem_cons.mp hx with q | q
              · subst q; simp
              · exact lo x q
            cases q1 : nc m (p + 1) (ns.drop (k + 1)) with
            | none => rw [q1] at h; cases h
            | some r1 =>
              have i1 := du_nc m (w + 1) (p + 1) (k + 1) r1 ([] :: hs) rs1 xs st1 (some (.pv z)) b6 b7 a8 (by omega) q1 (by omega) R1 lo1 (by simp; omega) (by omega)
              have s1 := nc_suf q1
              rw [q1] at h
              cases r1 with
              | error q =>
                simp only [Option.some.injEq] at h
                subst h
                obtain ⟨st', i1⟩ := i1
                refine ⟨st', ?_⟩
                rw [forLoop_cons, e1]
                exact i1
              | ok v =>
                obtain ⟨f, r1, p1⟩ := v
                obtain ⟨st2, rs2, k1, c5, c6, c7, c8, l1, d1, e2, R2, _⟩ := i1
                obtain ⟨⟨a1, ea1, la1⟩, m1, b1, g1⟩ := s1
                have hp1 := b1 (by omega)
                rw [dlv_open] at R2
                simp only at h
                rw [← d1] at h
                have lo2 : low ([f] :: hs) := fun x hx => by
                  rcases List.mem_cons.mp hx with q | q
                  · subst q; simp
                  · exact lo x q
                have kk1 : k1 = k + 1 + a1.length := by
                  have := congrArg List.length ea1
                  rw [List.length_append] at this
                  omega
                cases q2 : nc m p1 (ns.drop k1) with
                | none => rw [q2] at h; cases h
                | some r2 =>
                  have i2 := du_nc m w p1 k1 r2 ([f] :: hs) rs2 (xs.drop (k1 - (k + 1))) st2 c5 c6 c7 c8 (by omega) q2 hp1 R2 lo2 (by simp; omega) (by rw [List.length_drop]; omega)
                  have s2 := nc_suf q2
                  rw [q2] at h
                  cases r2 with
                  | error q =>
                    simp only [Option.some.injEq] at h
                    subst h
                    obtain ⟨st', i2⟩ := i2
                    refine ⟨st', ?_⟩
                    rw [forLoop_cons, e1]
                    exact e2.trans i2
                  | ok v2 =>
                    obtain ⟨g, r2, p2⟩ := v2
                    simp only [Option.some.injEq] at h
                    subst h
                    obtain ⟨st3, rs3, k2, d5, d6, d7, d8, l2, d2, e3, R3, h8⟩ := i2
                    obtain ⟨⟨a2, ea2, la2⟩, m2, b2, g2⟩ := s2
                    have kk2 : k2 = k1 + a2.length := by
                      have := congrArg List.length ea2
                      rw [List.length_append, d1] at this
                      omega
                    rw [dlv_node] at R3 h8
                    refine ⟨st3, rs3, k2, d5, d6, d7, d8, l2, d2, ?_, R3, h8⟩
                    rw [forLoop_cons, e1]
                    refine (e2.trans e3).trans ?_
                    rw [List.drop_drop, show k2 - k = (k1 - (k + 1) + (k2 - k1)) + 1 by omega, List.drop_succ_cons]
        · rw [if_neg h0] at h
          by_cases h1' : ns[k] = 1
          · rw [if_pos h1'] at h; exact leaf 1 66 h1' (by omega) rfl h
          · rw [if_neg h1'] at h
            by_cases h2 : ns[k] = 2
            · rw [if_pos h2] at h; exact leaf 2 67 h2 (by omega) rfl h
            · rw [if_neg h2] at h
              by_cases h3 : ns[k] = 3
              · rw [if_pos h3] at h; exact leaf 3 73 h3 (by omega) rfl h
              · rw [if_neg h3] at h
                simp only [Option.some.injEq] at h
                subst h
                refine ⟨st, ?_⟩
                rw [forLoop_cons, du_badA hk (fun z => by omega), List.length_cons, kq]
end
/-- what is told -/
def toldB (ns : List Int) : Except (List Int) Cd → PV
  | .error q => bdP ((ns.length : Int) - q.length)
  | .ok c => .tup [.str [99, 111, 100, 101], c.tree]
theorem due_ok {n : Nat} (ns : List Int) : ∃ st, Pr.cal (n + 1) 16 [.pv (.lst (ns.map .int))] [] = some (.ok (.pv (toldB ns (bfin ns))) st) := by
  rw [cal_eq Pr n 16 m16 _ _ rfl rfl]
  have hb : m16.body = [.iff (.boolop false [.cmp .eq (.bi .len [.var 0]) (.lit (.int 0)), .cmp .ne (.idx (.var 0) (.lit (.int 0))) (.lit (.int 79))]) [.ret (.tup [.lit (.str [98, 97, 100]), .lit (.int 0)])] [], .asg (.nm 1) (.lit (.int 1)), .asg (.nm 2) (.lit (.int 1)), .asg (.nm 3) (.lst true []), .asg (.nm 4) (.lit (.int 1)), .for_ (.nm 5) .range [.lit (.int 400)] [.iff (.cmp .gt (.var 1) (.lit (.int 0))) [.iff (.boolop false [.cmp .eq (.var 4) (.bi .len [.var 0]), .not (.chain .le .le (.lit (.int 0)) (.idx (.var 0) (.var 4)) (.lit (.int 3)))]) [.ret (.tup [.lit (.str [98, 97, 100]), .var 4])] [], .asg (.nm 6) (.lit (.non)), .iff (.cmp .eq (.idx (.var 0) (.var 4)) (.lit (.int 0))) [.aug 1 .add (.lit (.int 1)), .aug 2 .add (.lit (.int 1)), .iff (.cmp .gt (.var 2) (.lit (.int 120))) [.ret (.tup [.lit (.str [98, 97, 100]), .var 4])] [], .ex (.bm .append (.var 3) [.lst true []])] [.asg (.nm 6) (.idx (.lit (.str [45, 66, 67, 73])) (.idx (.var 0) (.var 4))), .aug 1 .sub (.lit (.int 1))], .for_ (.nm 7) .range [.bi .len [.var 3]] [.iff (.boolop true [.isn true (.var 6), .cmp .eq (.bi .len [.idx (.var 3) (.neg (.lit (.int 1)))]) (.lit (.int 1))]) [.asg (.nm 6) (.tup [.idx (.bm .pop0 (.var 3) []) (.lit (.int 0)), .var 6])] []], .iff (.boolop true [.isn true (.var 6), .cmp .gt (.bi .len [.var 3]) (.lit (.int 0))]) [.ex (.bm .append (.idx (.var 3) (.neg (.lit (.int 1)))) [.var 6]), .asg (.nm 6) (.lit (.non))] [], .aug 4 .add (.lit (.int 1)), .iff (.cmp .eq (.var 1) (.lit (.int 0))) [.asg (.nm 8) (.var 6)] []] []], .iff (.boolop false [.cmp .eq (.var 4) (.bi .len [.var 0]), .cmp .ne (.idx (.var 0) (.var 4)) (.bin .mod (.bi .int [.bi .sum [.slc (.var 0) false (.lit .non) true (.var 4)]]) (.lit (.int 251)))]) [.ret (.tup [.lit (.str [98, 97, 100]), .var 4])] [], .iff (.cmp .lt (.bin .add (.var 4) (.lit (.int 1))) (.bi .len [.var 0])) [.ret (.tup [.lit (.str [98, 97, 100]), .bin .add (.var 4) (.lit (.int 1))])] [], .ret (.tup [.lit (.str [99, 111, 100, 101]), .var 8])] := rfl
  have sl0 : ([LV.pv (.lst (ns.map .int))].map some ++ List.replicate (m16.nn - m16.ar) none : Slots) = [some (.pv (.lst (ns.map .int))), none, none, none, none, none, none, none, none] := rfl
  generalize Pr.sem n = S
  rw [hb, sl0]
  cases ns with
  | nil =>
    refine ⟨[], ?_⟩
    rw [cd_rt (v := .pv (bdP 0)) (st' := []) (by simp)]
    rfl
  | cons x r =>
    by_cases hx : x = 79
    · subst hx
      have hlen : ¬ ((r.length : Int) + 1 = 0) := by omega
      have s0 : exS S (.iff (.boolop false [.cmp .eq (.bi .len [.var 0]) (.lit (.int 0)), .cmp .ne (.idx (.var 0) (.lit (.int 0))) (.lit (.int 79))]) [.ret (.tup [.lit (.str [98, 97, 100]), .lit (.int 0)])] []) [some (.pv (.lst ((79 :: r).map .int))), none, none, none, none, none, none, none, none] [] = some (.nx [some (.pv (.lst ((79 :: r).map .int))), none, none, none, none, none, none, none, none] []) := by
        simp [hlen]
      rw [cd_picks s0]
      have s1 : exSs S [.asg (.nm 1) (.lit (.int 1)), .asg (.nm 2) (.lit (.int 1)), .asg (.nm 3) (.lst true []), .asg (.nm 4) (.lit (.int 1))] [some (.pv (.lst ((79 :: r).map .int))), none, none, none, none, none, none, none, none] [] = some (.nx (dsl (79 :: r) 1 1 1 none none none none) [.lst true []]) := by
        simp
      rw [show ([.asg (.nm 1) (.lit (.int 1)), .asg (.nm 2) (.lit (.int 1)), .asg (.nm 3) (.lst true []), .asg (.nm 4) (.lit (.int 1)), .for_ (.nm 5) .range [.lit (.int 400)] [.iff (.cmp .gt (.var 1) (.lit (.int 0))) [.iff (.boolop false [.cmp .eq (.var 4) (.bi .len [.var 0]), .not (.chain .le .le (.lit (.int 0)) (.idx (.var 0) (.var 4)) (.lit (.int 3)))]) [.ret (.tup [.lit (.str [98, 97, 100]), .var 4])] [], .asg (.nm 6) (.lit (.non)), .iff (.cmp .eq (.idx (.var 0) (.var 4)) (.lit (.int 0))) [.aug 1 .add (.lit (.int 1)), .aug 2 .add (.lit (.int 1)), .iff (.cmp .gt (.var 2) (.lit (.int 120))) [.ret (.tup [.lit (.str [98, 97, 100]), .var 4])] [], .ex (.bm .append (.var 3) [.lst true []])] [.asg (.nm 6) (.idx (.lit (.str [45, 66, 67, 73])) (.idx (.var 0) (.var 4))), .aug 1 .sub (.lit (.int 1))], .for_ (.nm 7) .range [.bi .len [.var 3]] [.iff (.boolop true [.isn true (.var 6), .cmp .eq (.bi .len [.idx (.var 3) (.neg (.lit (.int 1)))]) (.lit (.int 1))]) [.asg (.nm 6) (.tup [.idx (.bm .pop0 (.var 3) []) (.lit (.int 0)), .var 6])] []], .iff (.boolop true [.isn true (.var 6), .cmp .gt (.bi .len [.var 3]) (.lit (.int 0))]) [.ex (.bm .append (.idx (.var 3) (.neg (.lit (.int 1)))) [.var 6]), .asg (.nm 6) (.lit (.non))] [], .aug 4 .add (.lit (.int 1)), .iff (.cmp .eq (.var 1) (.lit (.int 0))) [.asg (.nm 8) (.var 6)] []] []], .iff (.boolop false [.cmp .eq (.var 4) (.bi .len [.var 0]), .cmp .ne (.idx (.var 0) (.var 4)) (.bin .mod (.bi .int [.bi .sum [.slc (.var 0) false (.lit .non) true (.var 4)]]) (.lit (.int 251)))]) [.ret (.tup [.lit (.str [98, 97, 100]), .var 4])] [], .iff (.cmp .lt (.bin .add (.var 4) (.lit (.int 1))) (.bi .len [.var 0])) [.ret (.tup [.lit (.str [98, 97, 100]), .bin .add (.var 4) (.lit (.int 1))])] [], .ret (.tup [.lit (.str [99, 111, 100, 101]), .var 8])] : List MS) = [.asg (.nm 1) (.lit (.int 1)), .asg (.nm 2) (.lit (.int 1)), .asg (.nm 3) (.lst true []), .asg (.nm 4) (.lit (.int 1))] ++ [.for_ (.nm 5) .range [.lit (.int 400)] [.iff (.cmp .gt (.var 1) (.lit (.int 0))) [.iff (.boolop false [.cmp .eq (.var 4) (.bi .len [.var 0]), .not (.chain .le .le (.lit (.int 0)) (.idx (.var 0) (.var 4)) (.lit (.int 3)))]) [.ret (.tup [.lit (.str [98, 97, 100]), .var 4])] [], .asg (.nm 6) (.lit (.non)), .iff (.cmp .eq (.idx (.var 0) (.var 4)) (.lit (.int 0))) [.aug 1 .add (.lit (.int 1)), .aug 2 .add (.lit (.int 1)), .iff (.cmp .gt (.var 2) (.lit (.int 120))) [.ret (.tup [.lit (.str [98, 97, 100]), .var 4])] [], .ex (.bm .append (.var 3) [.lst true []])] [.asg (.nm 6) (.idx (.lit (.str [45, 66, 67, 73])) (.idx (.var 0) (.var 4))), .aug 1 .sub (.lit (.int 1))], .for_ (.nm 7) .range [.bi .len [.var 3]] [.iff (.boolop true [.isn true (.var 6), .cmp .eq (.bi .len [.idx (.var 3) (.neg (.lit (.int 1)))]) (.lit (.int 1))]) [.asg (.nm 6) (.tup [.idx (.bm .pop0 (.var 3) []) (.lit (.int 0)), .var 6])] []], .iff (.boolop true [.isn true (.var 6), .cmp .gt (.bi .len [.var 3]) (.lit (.int 0))]) [.ex (.bm .append (.idx (.var 3) (.neg (.lit (.int 1)))) [.var 6]), .asg (.nm 6) (.lit (.non))] [], .aug 4 .add (.lit (.int 1)), .iff (.cmp .eq (.var 1) (.lit (.int 0))) [.asg (.nm 8) (.var 6)] []] []], .iff (.boolop false [.cmp .eq (.var 4) (.bi .len [.var 0]), .cmp .ne (.idx (.var 0) (.var 4)) (.bin .mod (.bi .int [.bi .sum [.slc (.var 0) false (.lit .non) true (.var 4)]]) (.lit (.int 251)))]) [.ret (.tup [.lit (.str [98, 97, 100]), .var 4])] [], .iff (.cmp .lt (.bin .add (.var 4) (.lit (.int 1))) (.bi .len [.var 0])) [.ret (.tup [.lit (.str [98, 97, 100]), .bin .add (.var 4) (.lit (.int 1))])] [], .ret (.tup [.lit (.str [99, 111, 100, 101]), .var 8])] from rfl, exSs_app, s1, seqS_nx]
      obtain ⟨res, eres⟩ := nc_some 122 1 r (by omega) (by omega)
      have R0 : Stack tr [Cell.lst true []] 0 [] [] := ⟨rfl, trivial, by simp⟩
      have du := du_nc (S := S) (ns := 79 :: r) 122 0 1 1 res [] [] ((upto 0 400).map .int) _ none none none none (by simp) (by simpa using eres) (by omega) R0 (fun _ h => by simp at h) (by simp) (by rw [List.length_map, upto_length]; omega)
      have fv := forV_upto (n := 400) (by decide) (forStep S (.nm 5) duB) (dsl (79 :: r) 1 1 1 none none none none) [Cell.lst true []]
      have ev : evEs S [.lit (.int 400)] (dsl (79 :: r) 1 1 1 none none none none) [.lst true []] = some (.ok [.pv (.int ((400 : Nat) : Int))] [.lst true []]) := by simp
      have e5 : exS S (.for_ (.nm 5) .range [.lit (.int 400)] [.iff (.cmp .gt (.var 1) (.lit (.int 0))) [.iff (.boolop false [.cmp .eq (.var 4) (.bi .len [.var 0]), .not (.chain .le .le (.lit (.int 0)) (.idx (.var 0) (.var 4)) (.lit (.int 3)))]) [.ret (.tup [.lit (.str [98, 97, 100]), .var 4])] [], .asg (.nm 6) (.lit (.non)), .iff (.cmp .eq (.idx (.var 0) (.var 4)) (.lit (.int 0))) [.aug 1 .add (.lit (.int 1)), .aug 2 .add (.lit (.int 1)), .iff (.cmp .gt (.var 2) (.lit (.int 120))) [.ret (.tup [.lit (.str [98, 97, 100]), .var 4])] [], .ex (.bm .append (.var 3) [.lst true []])] [.asg (.nm 6) (.idx (.lit (.str [45, 66, 67, 73])) (.idx (.var 0) (.var 4))), .aug 1 .sub (.lit (.int 1))], .for_ (.nm 7) .range [.bi .len [.var 3]] [.iff (.boolop true [.isn true (.var 6), .cmp .eq (.bi .len [.idx (.var 3) (.neg (.lit (.int 1)))]) (.lit (.int 1))]) [.asg (.nm 6) (.tup [.idx (.bm .pop0 (.var 3) []) (.lit (.int 0)), .var 6])] []], .iff (.boolop true [.isn true (.var 6), .cmp .gt (.bi .len [.var 3]) (.lit (.int 0))]) [.ex (.bm .append (.idx (.var 3) (.neg (.lit (.int 1)))) [.var 6]), .asg (.nm 6) (.lit (.non))] [], .aug 4 .add (.lit (.int 1)), .iff (.cmp .eq (.var 1) (.lit (.int 0))) [.asg (.nm 8) (.var 6)] []] []]) (dsl (79 :: r) 1 1 1 none none none none) [.lst true []] = forLoop (forStep S (.nm 5) duB) ((upto 0 400).map .int) (dsl (79 :: r) 1 1 1 none none none none) [.lst true []] := by
        rw [exS_for, ev, Rs.bf_ok, fv]
      simp only [bfin, if_true, eres]
      cases res with
      | error q =>
        obtain ⟨st', e⟩ := du
        refine ⟨st', ?_⟩
        rw [cd_rt (e5.trans e)]
        rfl
      | ok v =>
        obtain ⟨c, q, p'⟩ := v
        obtain ⟨st', rs', k', b5, b6, b7, b8, l1, d1, e, R1, h8⟩ := du
        obtain ⟨i5, ei⟩ := du_idle (S := S) (ns := 79 :: r) (j := p') (k := k') (st := st') (((upto 0 400).map .int).drop (k' - 1)) b5 b6 b7 b8
        rw [cd_picks ((e5.trans e).trans ei), h8 rfl, dlv_empty]
        simp only
        have hk : k' ≤ (79 :: r).length := by omega
        refine ⟨st', ?_⟩
        have ct := cut_ints hk
        have sm := sum_ints ((79 :: r).take k')
        rw [List.map_take] at sm ct
        have bi : ∀ i : Int, doBI .int [.int i] = some (.int i) := fun _ => rfl
        have md : doBin .mod (.int ((79 :: r).take k').sum) (.int 251) = some (.int (dueN (79 :: r) k')) := rfl
        generalize 79 :: r = N at *
        cases q with
        | nil =>
          have hk' : ((k' : Int) = ((N.length : Nat) : Int)) = True := by simp at l1; simp [l1]
          simp only [cfin]
          have s6 : exS S (.iff (.boolop false [.cmp .eq (.var 4) (.bi .len [.var 0]), .cmp .ne (.idx (.var 0) (.var 4)) (.bin .mod (.bi .int [.bi .sum [.slc (.var 0) false (.lit .non) true (.var 4)]]) (.lit (.int 251)))]) [.ret (.tup [.lit (.str [98, 97, 100]), .var 4])] []) (dsl N 0 p' k' i5 b6 b7 (some (.pv (oP (some c))))) st' = some (.rt (.pv (bdP (k' : Nat))) st') := by simp [hk']
          rw [cd_rt s6]
          simp at l1
          simp [toldB, l1]
        | cons y q =>
          have l1' : k' + (q.length + 1) = N.length := by simpa using l1
          have h1 : k' < N.length := by omega
          have hk' : ¬ ((k' : Int) = ((N.length : Nat) : Int)) := by omega
          have ix := atI_map h1
          have hy : N[k'] = y := by
            have := drop_consI h1
            rw [d1] at this
            exact (List.cons.inj this).1.symm
          rw [hy] at ix
          have hd : N.length - (q.length + 1) = k' := by omega
          simp only [cfin, hd]
          by_cases hyd : y = dueN N k'
          · rw [if_pos hyd]
            have s6 : exS S (.iff (.boolop false [.cmp .eq (.var 4) (.bi .len [.var 0]), .cmp .ne (.idx (.var 0) (.var 4)) (.bin .mod (.bi .int [.bi .sum [.slc (.var 0) false (.lit .non) true (.var 4)]]) (.lit (.int 251)))]) [.ret (.tup [.lit (.str [98, 97, 100]), .var 4])] []) (dsl N 0 p' k' i5 b6 b7 (some (.pv (oP (some c))))) st' = some (.nx (dsl N 0 p' k' i5 b6 b7 (some (.pv (oP (some c))))) st') := by simp [hk', ix, ct, sm, bi, md, hyd, optL]
            rw [cd_picks s6]
            cases q with
            | nil =>
              have hl : ¬ ((k' : Int) + 1 < ((N.length : Nat) : Int)) := by simp at l1'; omega
              have s7 : exSs S [.iff (.cmp .lt (.bin .add (.var 4) (.lit (.int 1))) (.bi .len [.var 0])) [.ret (.tup [.lit (.str [98, 97, 100]), .bin .add (.var 4) (.lit (.int 1))])] [], .ret (.tup [.lit (.str [99, 111, 100, 101]), .var 8])] (dsl N 0 p' k' i5 b6 b7 (some (.pv (oP (some c))))) st' = some (.rt (.pv (.tup [.str [99, 111, 100, 101], c.tree])) st') := by simp [hl, oP]
              rw [s7]
              rfl
            | cons u q =>
              have hl : ((k' : Int) + 1 < ((N.length : Nat) : Int)) := by simp at l1'; omega
              have s7 : exSs S [.iff (.cmp .lt (.bin .add (.var 4) (.lit (.int 1))) (.bi .len [.var 0])) [.ret (.tup [.lit (.str [98, 97, 100]), .bin .add (.var 4) (.lit (.int 1))])] [], .ret (.tup [.lit (.str [99, 111, 100, 101]), .var 8])] (dsl N 0 p' k' i5 b6 b7 (some (.pv (oP (some c))))) st' = some (.rt (.pv (bdP ((k' : Int) + 1))) st') := by simp [hl]
              rw [s7]
              simp only [toldB, endR_rt, List.length_cons]
              have : (N.length : Int) - ((q.length + 1 : Nat) : Int) = (k' : Int) + 1 := by simp at l1'; omega
              rw [this]
          · rw [if_neg hyd]
            have s6 : exS S (.iff (.boolop false [.cmp .eq (.var 4) (.bi .len [.var 0]), .cmp .ne (.idx (.var 0) (.var 4)) (.bin .mod (.bi .int [.bi .sum [.slc (.var 0) false (.lit .non) true (.var 4)]]) (.lit (.int 251)))]) [.ret (.tup [.lit (.str [98, 97, 100]), .var 4])] []) (dsl N 0 p' k' i5 b6 b7 (some (.pv (oP (some c))))) st' = some (.rt (.pv (bdP (k' : Nat))) st') := by simp [hk', ix, ct, sm, bi, md, hyd, optL]
            rw [cd_rt s6]
            simp only [toldB, endR_rt, List.length_cons]
            have : (N.length : Int) - ((q.length + 1 : Nat) : Int) = (k' : Int) := by omega
            rw [this]
    · refine ⟨[], ?_⟩
      have hlen : ¬ ((r.length : Int) + 1 = 0) := by omega
      simp only [bfin, if_neg hx]
      rw [cd_rt (v := .pv (bdP 0)) (st' := []) (by simp [hlen, hx])]
      simp [toldB]
end Z53
end

section
namespace Z53
open Z
/-! ### told -/
theorem eqOk_ints (ns : List Int) : eqOk (.lst (ns.map .int)) = true := by
  have : ∀ l : List Int, eqOks (l.map .int) = true := fun l => by
    induction l with
    | nil => rfl
    | cons x l ih => simp [eqOks, eqOk, ih]
  simpa [eqOk] using this ns
theorem deps_ints : ∀ ns : List Int, deps (ns.map .int) = 0
  | [] => rfl
  | n :: ns => by simp [deps, Z.dep, deps_ints ns]
theorem dep_ints (ns : List Int) : Z.dep (.lst (ns.map .int)) ≤ maxDep := by
  have : Z.dep (.lst (ns.map .int)) = 1 + deps (ns.map .int) := by simp [Z.dep]
  rw [this, deps_ints]; decide
theorem ne_ints (ns : List Int) : doCmp .ne (.lst (ns.map .int)) (.lst (ns.map .int)) = some false := ne_self (eqOk_ints ns) (dep_ints ns)
theorem list_ints (ns : List Int) : doBI .list [.lst (ns.map .int)] = some (.lst (ns.map .int)) := rfl
section
variable {n : Nat}
theorem cob_call (hn : 126 ≤ n) (ns : List Int) (st : Store) : (Pr.sem n).call 9 [.pv (.lst (ns.map .int))] st = (match bfin ns with
    | .ok c => some (.ok (.pv c.tree) st)
    | .error q => some (.ex (nbad ns q) st)) := by
  obtain ⟨n, rfl⟩ : ∃ j, n = j + 1 := ⟨n - 1, by omega⟩
  obtain ⟨st1, e⟩ := bytes_ok (n := n) (by omega) ns
  cases h : bfin ns with
  | ok c => rw [h] at e; exact call1 rfl e
  | error q => rw [h] at e; exact callx1 rfl e
theorem whole_int (i : Int) (st : Store) : (Pr.sem (n + 1)).call 12 [.pv (.int i)] st = some (.ok (.pv (.bl true)) st) := call1 (st1 := []) rfl rfl
theorem told_pv (hn : 126 ≤ n) (ns : List Int) : Pr.cal (n + 1) 15 [.pv (.lst (ns.map .int))] [] = some (.ok (.pv (toldB ns (bfin ns))) []) := by
  obtain ⟨n, rfl⟩ : ∃ j, n = j + 1 := ⟨n - 1, by omega⟩
  rw [cal_eq Pr (n + 1) 15 m15 _ _ rfl rfl]
  have cc := cob_call (n := n + 1) hn ns []
  have ne := ne_ints ns
  have li := list_ints ns
  have s0 : (Pr.sem (n + 1)).sub 2 2 = true := rfl
  have s1 : (Pr.sem (n + 1)).sub 2 0 = true := rfl
  have s2 : (Pr.sem (n + 1)).sub 2 1 = false := rfl
  have xi := xinB (n + 1)
  have wi := fun i st => whole_int (n := n) i st
  cases h : bfin ns with
  | ok c =>
    rw [h] at cc
    generalize ns.map PV.int = L at *
    simp [m15, li, cc, ne, toldB]
  | error q =>
    rw [h] at cc
    simp only [nbad] at cc
    generalize hL : ns.map PV.int = L at *
    simp [m15, li, cc, ne, toldB, xi, s0, s1, s2, wi, unslot, look]
theorem told_call (hn : 127 ≤ n) (ns : List Int) (st : Store) : (Pr.sem n).call 15 [.pv (.lst (ns.map .int))] st = some (.ok (.pv (toldB ns (bfin ns))) st) := by
  obtain ⟨n, rfl⟩ : ∃ j, n = j + 1 := ⟨n - 1, by omega⟩
  exact call1 rfl (told_pv (by omega) ns)
theorem due_call (ns : List Int) (st : Store) : (Pr.sem (n + 1)).call 16 [.pv (.lst (ns.map .int))] st = some (.ok (.pv (toldB ns (bfin ns))) st) := by
  obtain ⟨st1, e⟩ := due_ok (n := n) ns
  exact call1 rfl e
abbrev iL (ns : List Int) : Cell := .lst true ((ns.map PV.int).map .pv)
theorem told_ref (hn : 127 ≤ n) (ns : List Int) {st : Store} {r : Nat} (hr : st[r]? = some (iL ns)) : (Pr.sem n).call 15 [.ref r] st = some (.ok (.pv (toldB ns (bfin ns))) st) := by
  obtain ⟨n, rfl⟩ : ∃ j, n = j + 2 := ⟨n - 2, by omega⟩
  refine call_len rfl ?_ rfl
  rw [cal_eq Pr (n + 1) 15 m15 _ _ rfl rfl]
  have cc := cob_call (n := n + 1) (by omega) ns st
  have ne := ne_ints ns
  have li := list_ints ns
  have pk : peek st (.ref r) = some (.lst (ns.map .int)) := peek_ref hr
  have pks : peeks st [.ref r] = some [.lst (ns.map .int)] := by simp [peeks, pk]
  have cm : cmpT .ne (.pv (.lst (ns.map .int))) (.ref r) st = some (.ok false st) := by simp [cmpT, pk, ne]
  have s0 : (Pr.sem (n + 1)).sub 2 2 = true := rfl
  have s1 : (Pr.sem (n + 1)).sub 2 0 = true := rfl
  have s2 : (Pr.sem (n + 1)).sub 2 1 = false := rfl
  have xi := xinB (n + 1)
  have wi := fun i st => whole_int (n := n) i st
  cases h : bfin ns with
  | ok c =>
    rw [h] at cc
    generalize ns.map PV.int = L at *
    simp [m15, pks, li, cc, cm, toldB]
  | error q =>
    rw [h] at cc
    simp only [nbad] at cc
    generalize hL : ns.map PV.int = L at *
    simp [m15, pks, li, cc, cm, toldB, xi, s0, s1, s2, wi, unslot, look]
end
/-! ### the numbers of a code -/
def lfN (c : Nat) : Int := if c = 66 then 1 else if c = 67 then 2 else 3
def nums : Cd → List Int
  | .leaf c => [lfN c]
  | .node a b => 0 :: (nums a ++ nums b)
def wholeN (c : Cd) : List Int := (79 :: nums c) ++ [(79 :: nums c).sum % 251]
theorem nums_len : ∀ c : Cd, (nums c).length + 1 = 2 * c.many
  | .leaf _ => rfl
  | .node a b => by
    have := nums_len a
    have := nums_len b
    simp only [nums, Cd.many, List.length_cons, List.length_append]
    omega
theorem nums_nc : ∀ (c : Cd) (m p : Nat) (q : List Int), c.good → p ≤ 120 → c.dep + 1 ≤ m → (p + c.many ≤ 121 → nc m p (nums c ++ q) = some (.ok (c, q, p + c.many - 1))) ∧ (121 < p + c.many → ∃ z, nc m p (nums c ++ q) = some (.error z))
  | .leaf x, 0, p, q, _, _, h => by omega
  | .node a b, 0, p, q, _, _, h => by omega
  | .leaf x, m + 1, p, q, g, hp, h => by
    have hx : lf x := g
    refine ⟨fun _ => ?_, fun z => by simp only [Cd.many] at z; omega⟩
    rcases hx with e | e | e <;> subst e <;> simp [nums, nc, lfN, Cd.many]
  | .node a b, m + 1, p, q, g, hp, h => by
    simp only [Cd.dep] at h
    have e : nums (.node a b) ++ q = 0 :: (nums a ++ (nums b ++ q)) := by simp [nums]
    rw [e]
    have pa := many_pos a
    have pb := many_pos b
    have ia := nums_nc a m (p + 1) (nums b ++ q) g.1
    constructor
    · intro hm
      simp only [Cd.many] at hm
      have i1 := (ia (by omega) (by omega)).1 (by omega)
      have i2 := (nums_nc b m (p + 1 + a.many - 1) q g.2 (by omega) (by omega)).1 (by omega)
      unfold nc
      rw [if_pos rfl, if_neg (by omega), i1]
      simp only
      rw [i2]
      simp only [Cd.many]
      have : p + 1 + a.many - 1 + b.many - 1 = p + (a.many + b.many) - 1 := by omega
      rw [this]
    · intro hm
      simp only [Cd.many] at hm
      unfold nc
      rw [if_pos rfl]
      by_cases hp2 : 120 < p + 1
      · rw [if_pos hp2]; exact ⟨_, rfl⟩
      · rw [if_neg hp2]
        by_cases h1 : p + 1 + a.many ≤ 121
        · have i1 := (ia (by omega) (by omega)).1 h1
          obtain ⟨z, i2⟩ := (nums_nc b m (p + 1 + a.many - 1) q g.2 (by omega) (by omega)).2 (by omega)
          rw [i1]
          simp only
          rw [i2]
          exact ⟨_, rfl⟩
        · obtain ⟨z, i1⟩ := (ia (by omega) (by omega)).2 (by omega)
          rw [i1]
          exact ⟨_, rfl⟩
theorem nc_mono1 : ∀ (n p : Nat) (s : List Int) (r : NRes), nc n p s = some r → nc (n + 1) p s = some r
  | 0, _, _, _, h => by simp [nc] at h
  | n + 1, p, [], r, h => by simpa [nc] using h
  | n + 1, p, x :: s, r, h => by
    unfold nc at h ⊢
    by_cases h0 : x = 0
    · rw [if_pos h0] at h ⊢
      by_cases hp : 120 < p + 1
      · rw [if_pos hp] at h ⊢; exact h
      · rw [if_neg hp] at h ⊢
        cases q1 : nc n (p + 1) s with
        | none => rw [q1] at h; cases h
        | some r1 =>
          rw [nc_mono1 n (p + 1) s r1 q1]
          rw [q1] at h
          cases r1 with
          | error q => exact h
          | ok v =>
            obtain ⟨f, r1, p1⟩ := v
            simp only at h ⊢
            cases q2 : nc n p1 r1 with
            | none => rw [q2] at h; cases h
            | some r2 =>
              rw [nc_mono1 n p1 r1 r2 q2]
              rw [q2] at h
              exact h
    · rw [if_neg h0] at h ⊢
      exact h
theorem nc_mono {n m p : Nat} {s : List Int} {r : NRes} (h : nc n p s = some r) (hm : n ≤ m) : nc m p s = some r := by
  obtain ⟨d, rfl⟩ : ∃ d, m = n + d := ⟨m - n, by omega⟩
  induction d with
  | zero => exact h
  | succ d ih => exact nc_mono1 _ _ _ _ (ih (by omega))
theorem nc_uniq {n m p : Nat} {s : List Int} {r r' : NRes} (h : nc n p s = some r) (h' : nc m p s = some r') : r = r' := by
  have a := nc_mono h (Nat.le_max_left n m)
  have b := nc_mono h' (Nat.le_max_right n m)
  rw [a] at b
  exact Option.some.inj b
/-- the numbers of a code are read back -/
theorem bfin_whole {c : Cd} (g : c.good) : (c.many ≤ 120 → bfin (wholeN c) = .ok c) ∧ (120 < c.many → ∃ q, bfin (wholeN c) = .error q) := by
  obtain ⟨y, hy⟩ : ∃ y, y = (79 :: nums c).sum % 251 := ⟨_, rfl⟩
  have e : wholeN c = 79 :: (nums c ++ [y]) := by rw [hy]; rfl
  obtain ⟨h1, h2⟩ := nums_nc c (c.dep + 1) 1 [y] g (by omega) (Nat.le_refl _)
  obtain ⟨r, er⟩ := nc_some 122 1 (nums c ++ [y]) (by omega) (by omega)
  rw [e]
  simp only [bfin, if_true, er]
  constructor
  · intro hm
    have := nc_uniq er (h1 (by omega))
    subst this
    simp only [cfin]
    have hd : dueN (79 :: (nums c ++ [y])) ((79 :: (nums c ++ [y])).length - (([] : List Int).length + 1)) = y := by
      unfold dueN
      have el : (79 :: (nums c ++ [y])).length - (([] : List Int).length + 1) = (79 :: nums c).length := by simp
      rw [el, ← List.cons_append, List.take_left, hy]
    rw [hd, if_pos rfl]
  · intro hm
    obtain ⟨z, ez⟩ := h2 (by omega)
    have := nc_uniq er ez
    subst this
    exact ⟨z, rfl⟩
end Z53
end

section
namespace Z53
open Z
/-! ### the numbers in the program, in the law -/
section
variable {n : Nat}
theorem add_ints {a b : List Int} (h : a.length + b.length ≤ line) : doBin .add (.lst (a.map .int)) (.lst (b.map .int)) = some (.lst ((a ++ b).map .int)) := by rw [cat_lst (by simpa using h), List.map_append]
theorem tabX_leaf {c : Nat} (h : lf c) : (([[66], [67], [73]] : List Sg).findIdx? fun x => decide (x = [c])).map (fun j => (1 : Int) + (j : Nat)) = some (lfN c) := by
  rcases h with e | e | e <;> subst e <;> rfl
theorem sind_leaf {c : Nat} (h : lf c) (st : Store) : doBM .sindex (.pv (.str [32, 66, 67, 73])) [.pv (.str [c])] st = some (.ok (.pv (.int (lfN c))) st) := by
  rcases h with e | e | e <;> subst e <;> kernel_rfl
theorem cnum_of : ∀ (c : Cd) (n : Nat), c.good → c.dep + 2 ≤ n → c.many ≤ 1000 → Pr.cal n 7 [.pv c.tree] [] = some (.ok (.pv (.lst ((nums c).map .int))) [])
  | .leaf c, n, g, h, hm => by
    obtain ⟨n, rfl⟩ : ∃ m, n = m + 2 := ⟨n - 2, by simp only [Cd.dep] at h; omega⟩
    rw [cal_eq Pr (n + 1) 7 m7 _ _ rfl rfl]
    have hc : lf c := g
    have tj := tabJ (n + 1)
    rcases hc with e | e | e <;> subst e <;> simp [m7, Cd.tree, tj, nums, lfN, List.findIdx?, List.findIdx?.go]
  | .node a b, n, g, h, hm => by
    obtain ⟨n, rfl⟩ : ∃ m, n = m + 2 := ⟨n - 2, by simp only [Cd.dep] at h; omega⟩
    rw [cal_eq Pr (n + 1) 7 m7 _ _ rfl rfl]
    simp only [Cd.dep] at h
    simp only [Cd.many] at hm
    have pa := many_pos a
    have pb := many_pos b
    have ha := call1 (P := Pr) (f := 7) (st := []) rfl (cnum_of a (n + 1) g.1 (by omega) (by omega))
    have hb := call1 (P := Pr) (f := 7) (st := []) rfl (cnum_of b (n + 1) g.2 (by omega) (by omega))
    have la := nums_len a
    have lb := nums_len b
    have hline : line = 16777216 := rfl
    have j1 : doBin .add (.lst [.int 0]) (.lst ((nums a).map .int)) = some (.lst ((0 :: nums a).map .int)) := add_ints (a := [0]) (by simp; omega)
    have j2 : doBin .add (.lst ((0 :: nums a).map .int)) (.lst ((nums b).map .int)) = some (.lst (((0 :: nums a) ++ nums b).map .int)) := add_ints (by simp; omega)
    have e : (nums (.node a b)).map PV.int = ((0 :: nums a) ++ nums b).map .int := rfl
    rw [e]
    generalize ((0 :: nums a) ++ nums b).map PV.int = L2 at *
    generalize (0 :: nums a).map PV.int = L1 at *
    generalize (nums a).map PV.int = A at *
    generalize (nums b).map PV.int = B at *
    simp [m7, Cd.tree, ha, hb, j1, j2]
theorem lnum_of : ∀ (c : Cd) (n : Nat), c.good → c.dep + 2 ≤ n → c.many ≤ 1000 → Pr.cal n 14 [.pv c.tree] [] = some (.ok (.pv (.lst ((nums c).map .int))) [])
  | .leaf c, n, g, h, hm => by
    obtain ⟨n, rfl⟩ : ∃ m, n = m + 2 := ⟨n - 2, by simp only [Cd.dep] at h; omega⟩
    rw [cal_eq Pr (n + 1) 14 m14 _ _ rfl rfl]
    have hc : lf c := g
    have si := fun st => sind_leaf hc st
    have bo : ∀ st, bmOk .sindex (.pv (.str [32, 66, 67, 73])) st = true := fun _ => rfl
    simp [m14, Cd.tree, si, bo, nums, isTy]
  | .node a b, n, g, h, hm => by
    obtain ⟨n, rfl⟩ : ∃ m, n = m + 2 := ⟨n - 2, by simp only [Cd.dep] at h; omega⟩
    rw [cal_eq Pr (n + 1) 14 m14 _ _ rfl rfl]
    simp only [Cd.dep] at h
    simp only [Cd.many] at hm
    have pa := many_pos a
    have pb := many_pos b
    have ha := call1 (P := Pr) (f := 14) (st := []) rfl (lnum_of a (n + 1) g.1 (by omega) (by omega))
    have hb := call1 (P := Pr) (f := 14) (st := []) rfl (lnum_of b (n + 1) g.2 (by omega) (by omega))
    have la := nums_len a
    have lb := nums_len b
    have hline : line = 16777216 := rfl
    have j1 : doBin .add (.lst [.int 0]) (.lst ((nums a).map .int)) = some (.lst ((0 :: nums a).map .int)) := add_ints (a := [0]) (by simp; omega)
    have j2 : doBin .add (.lst ((0 :: nums a).map .int)) (.lst ((nums b).map .int)) = some (.lst (((0 :: nums a) ++ nums b).map .int)) := add_ints (by simp; omega)
    have e : (nums (.node a b)).map PV.int = ((0 :: nums a) ++ nums b).map .int := rfl
    rw [e]
    generalize ((0 :: nums a) ++ nums b).map PV.int = L2 at *
    generalize (0 :: nums a).map PV.int = L1 at *
    generalize (nums a).map PV.int = A at *
    generalize (nums b).map PV.int = B at *
    simp [m14, Cd.tree, ha, hb, j1, j2, isTy]
theorem call_shr {P : Prog} {n f : Nat} {vs : List LV} {st st1 : Store} {v : LV} (hs : P.shr f = true) (e : P.cal n f vs st = some (.ok v st1)) (hb : below st.length v = false) : (P.sem n).call f vs st = some (.ok v st1) := by
  have e' : (P.sem n).cal f vs st = _ := e
  have hs' : (P.sem n).shr f = true := hs
  unfold Sem.call
  rw [hs']
  simp only [e', hb, trunc, Bool.false_and, Bool.false_eq_true, if_false]
theorem chkd_call (ns : List Int) (h : ns.length < 10000) (st : Store) : (Pr.sem (n + 1)).call 6 [.pv (.lst (ns.map .int))] st = some (.ok (.ref st.length) (st ++ [iL (ns ++ [ns.sum % 251])])) := by
  have hline : line = 16777216 := rfl
  refine call_shr rfl ?_ (by simp [below])
  rw [cal_eq Pr n 6 m6 _ _ rfl rfl]
  have gm : (Pr.sem n).glb 2 = some (.int 251) := rfl
  have sm := sum_ints ns
  have md : doBin .mod (.int ns.sum) (.int 251) = some (.int (ns.sum % 251)) := rfl
  have hl : ns.length + 1 ≤ line := by omega
  simp [m6, gm, sm, md, hl, iL]
theorem boc_call {c : Cd} (g : c.good) (hm : c.many ≤ 1000) (hn : c.dep + 3 ≤ n) (st : Store) : (Pr.sem n).call 8 [.pv c.tree] st = some (.ok (.ref st.length) (st ++ [iL (wholeN c)])) := by
  obtain ⟨n, rfl⟩ : ∃ j, n = j + 2 := ⟨n - 2, by omega⟩
  have hline : line = 16777216 := rfl
  refine call_shr rfl ?_ (by simp [below])
  rw [cal_eq Pr (n + 1) 8 m8 _ _ rfl rfl]
  have gm : (Pr.sem (n + 1)).glb 1 = some (.int 79) := rfl
  have cn := call1 (P := Pr) (f := 7) (st := st) rfl (cnum_of c (n + 1) g (by omega) hm)
  have la := nums_len c
  have j1 : doBin .add (.lst [.int 79]) (.lst ((nums c).map .int)) = some (.lst ((79 :: nums c).map .int)) := add_ints (a := [79]) (by simp; omega)
  have ck := chkd_call (n := n) (79 :: nums c) (by simp; omega) st
  have e : wholeN c = (79 :: nums c) ++ [(79 :: nums c).sum % 251] := rfl
  rw [e]
  generalize iL ((79 :: nums c) ++ [(79 :: nums c).sum % 251]) = C at *
  generalize (79 :: nums c).map PV.int = L1 at *
  generalize (nums c).map PV.int = A at *
  simp [m8, gm, cn, j1, ck]
theorem whole_call {c : Cd} (g : c.good) (hm : c.many ≤ 1000) (hn : c.dep + 3 ≤ n) (st : Store) : (Pr.sem n).call 17 [.pv c.tree] st = some (.ok (.pv (.lst ((wholeN c).map .int))) st) := by
  obtain ⟨n, rfl⟩ : ∃ j, n = j + 2 := ⟨n - 2, by omega⟩
  have hline : line = 16777216 := rfl
  refine call1 (st1 := []) rfl ?_
  rw [cal_eq Pr (n + 1) 17 m17 _ _ rfl rfl]
  have cn := call1 (P := Pr) (f := 14) (st := []) rfl (lnum_of c (n + 1) g (by omega) hm)
  have la := nums_len c
  have j1 : doBin .add (.lst [.int 79]) (.lst ((nums c).map .int)) = some (.lst ((79 :: nums c).map .int)) := add_ints (a := [79]) (by simp; omega)
  have sm := sum_ints (79 :: nums c)
  have bi : ∀ i : Int, doBI .int [.int i] = some (.int i) := fun _ => rfl
  have md : doBin .mod (.int (79 :: nums c).sum) (.int 251) = some (.int ((79 :: nums c).sum % 251)) := rfl
  have j2 : doBin .add (.lst ((79 :: nums c).map .int)) (.lst [.int ((79 :: nums c).sum % 251)]) = some (.lst ((wholeN c).map .int)) := add_ints (b := [(79 :: nums c).sum % 251]) (by simp; omega)
  generalize (wholeN c).map PV.int = L2 at *
  generalize (79 :: nums c).sum % 251 = y at *
  generalize (79 :: nums c).sum = s at *
  generalize (79 :: nums c).map PV.int = L1 at *
  generalize (nums c).map PV.int = A at *
  simp [m17, cn, j1, sm, bi, md, j2]
theorem whole_len (c : Cd) : (wholeN c).length + 1 = 2 * c.many + 2 := by
  have := nums_len c
  simp [wholeN]
  omega
end
/-! ### long codes, bent numbers -/
section
variable {n : Nat}
theorem long_call {M : Nat} (h0 : 0 < M) (hM : M ≤ 200) {s0 st : Store} (h : Lk s0 st) : ∃ c st', (Pr.sem (n + 2)).call 18 [.ref 0, .pv (.int (M : Nat))] st = some (.ok (.pv (Cd.tree c)) st') ∧ Lk s0 st' ∧ c.good ∧ c.many = M := by
  suffices H : ∃ c st', Pr.cal (n + 2) 18 [.ref 0, .pv (.int (M : Nat))] st = some (.ok (.pv (Cd.tree c)) st') ∧ Lk s0 st' ∧ c.good ∧ c.many = M by
    obtain ⟨c, st', e, l, g⟩ := H
    exact ⟨c, st', call_len rfl e (by rw [l.2.1, h.2.1]), l, g⟩
  rw [cal_eq Pr (n + 1) 18 m18 _ _ rfl rfl]
  have dr := fun {st : Store} (h : Lk s0 st) {m : Int} (h1 : 0 < m) (h2 : m < 1073741824) => lk_draw (n := n) hdraw h h1 h2
  generalize Pr.sem (n + 1) = S at dr ⊢
  let I : Nat → Slots → Store → Prop := fun i φ st => Lk s0 st ∧ ∃ (c : Cd) (a3 a4 : Option LV), φ = [some (.ref 0), some (.pv (.int (M : Nat))), some (.pv c.tree), a3, a4] ∧ c.good ∧ c.many = i + 1
  obtain ⟨φ', st', e, L', c, a3, a4, hφ, g, hm⟩ := forLoop_inv (step := forStep S (.nm 3) [.asg (.nm 4) (.idx (.lst false [.lit (.str [66]), .lit (.str [67]), .lit (.str [73])]) (.call 11 [.var 0, .lit (.int 3)])), .asg (.nm 2) (.idx (.lst false [.tup [.var 2, .var 4], .tup [.var 4, .var 2]]) (.call 11 [.var 0, .lit (.int 2)]))]) I ((upto 0 (M - 1)).map .int) 0 [some (.ref 0), some (.pv (.int (M : Nat))), some (.pv (Cd.leaf 73).tree), none, none] st ⟨h, .leaf 73, none, none, rfl, .inr (.inr rfl), rfl⟩ fun i x φ st _ hi => by
    obtain ⟨L, c, a3, a4, hφ, g, hm⟩ := hi
    subst hφ
    obtain ⟨j, st1, e1, hj, L1⟩ := dr L (m := 3) (by decide) (by decide)
    obtain ⟨b, st2, e2, hb, L2⟩ := dr L1 (m := 2) (by decide) (by decide)
    obtain ⟨x1, hx1, lx⟩ : ∃ x1, atI ([.str [66], .str [67], .str [73]] : List PV) (j : Int) = some (.str [x1]) ∧ lf x1 := by
      have hj' : j = 0 ∨ j = 1 ∨ j = 2 := by omega
      rcases hj' with z | z | z <;> subst z
      · exact ⟨66, rfl, .inl rfl⟩
      · exact ⟨67, rfl, .inr (.inl rfl)⟩
      · exact ⟨73, rfl, .inr (.inr rfl)⟩
    have hb' : b = 0 ∨ b = 1 := by omega
    rcases hb' with z | z <;> subst z
    · refine ⟨_, st2, ?_, L2, .node c (.leaf x1), some (.pv x), some (.pv (.str [x1])), rfl, ⟨g, lx⟩, by simp only [Cd.many]; omega⟩
      simp at e2
      simp [forStep, e1, hx1, e2, Cd.tree]
    · refine ⟨_, st2, ?_, L2, .node (.leaf x1) c, some (.pv x), some (.pv (.str [x1])), rfl, ⟨lx, g⟩, by simp only [Cd.many]; omega⟩
      simp at e2
      simp [forStep, e1, hx1, e2, Cd.tree]
  subst hφ
  rw [List.length_map, upto_length] at hm
  refine ⟨c, st', ?_, L', g, by omega⟩
  have hline : line = 16777216 := rfl
  have fv := forV_upto (n := M - 1) (by omega) (forStep S (.nm 3) [.asg (.nm 4) (.idx (.lst false [.lit (.str [66]), .lit (.str [67]), .lit (.str [73])]) (.call 11 [.var 0, .lit (.int 3)])), .asg (.nm 2) (.idx (.lst false [.tup [.var 2, .var 4], .tup [.var 4, .var 2]]) (.call 11 [.var 0, .lit (.int 2)]))]) [some (.ref 0), some (.pv (.int (M : Nat))), some (.pv (Cd.leaf 73).tree), none, none] st
  rw [e] at fv
  have em : ((M - 1 : Nat) : Int) = (M : Int) - 1 := by omega
  rw [em] at fv
  simp [m18, Cd.tree] at fv ⊢
  simp [fv]
abbrev lists (Ls : List (List Int)) : PV := .lst (Ls.map fun l => .lst (l.map .int))
theorem bent_call {ns : List Int} (hl0 : 0 < ns.length) (hl : ns.length ≤ 1000) {s0 st : Store} (h : Lk s0 st) : ∃ Ls st', (Pr.sem (n + 2)).call 19 [.ref 0, .pv (.lst (ns.map .int))] st = some (.ok (.pv (lists Ls)) st') ∧ Lk s0 st' ∧ ∀ l ∈ Ls, l.length ≤ 4000 := by
  suffices H : ∃ Ls st', Pr.cal (n + 2) 19 [.ref 0, .pv (.lst (ns.map .int))] st = some (.ok (.pv (lists Ls)) st') ∧ Lk s0 st' ∧ ∀ l ∈ Ls, l.length ≤ 4000 by
    obtain ⟨Ls, st', e, l, hh⟩ := H
    exact ⟨Ls, st', call_len rfl e (by rw [l.2.1, h.2.1]), l, hh⟩
  rw [cal_eq Pr (n + 1) 19 m19 _ _ rfl rfl]
  have dr := fun {st : Store} (h : Lk s0 st) {m : Int} (h1 : 0 < m) (h2 : m < 1073741824) => lk_draw (n := n) hdraw h h1 h2
  generalize Pr.sem (n + 1) = S at dr ⊢
  have hline : line = 16777216 := rfl
  have p30 : doBin .pow (.int 10) (.int 30) = some (.int 1000000000000000000000000000000) := by kernel_rfl
  let I : Nat → Slots → Store → Prop := fun i φ st => Lk s0 st ∧ ∃ (Ls : List (List Int)) (a3 a4 a5 : Option LV), φ = [some (.ref 0), some (.pv (.lst (ns.map .int))), some (.pv (lists Ls)), a3, a4, a5] ∧ Ls.length ≤ 5 + 4 * i ∧ ∀ l ∈ Ls, l.length ≤ 4000
  obtain ⟨φ', st', e, L', Ls, a3, a4, a5, hφ, hn, hbd⟩ := forLoop_inv (step := forStep S (.nm 3) [.asg (.nm 4) (.call 11 [.var 0, .bi .len [.var 1]]), .asg (.nm 5) (.idx (.lst false [.lit (.int 0), .lit (.int 1), .lit (.int 2), .lit (.int 3), .lit (.int 4), .neg (.lit (.int 1)), .lit (.int 79), .bin .pow (.lit (.int 10)) (.lit (.int 30))]) (.call 11 [.var 0, .lit (.int 8)])), .asg (.nm 2) (.bin .add (.var 2) (.lst false [.bin .add (.bin .add (.slc (.var 1) false (.lit .non) true (.var 4)) (.lst false [.var 5])) (.slc (.var 1) true (.bin .add (.var 4) (.lit (.int 1))) false (.lit .non)), .bin .add (.slc (.var 1) false (.lit .non) true (.var 4)) (.slc (.var 1) true (.bin .add (.var 4) (.lit (.int 1))) false (.lit .non)), .bin .add (.bin .add (.slc (.var 1) false (.lit .non) true (.var 4)) (.lst false [.var 5])) (.slc (.var 1) true (.var 4) false (.lit .non)), .slc (.var 1) false (.lit .non) true (.var 4)]))]) I ((upto 0 5).map .int) 0 [some (.ref 0), some (.pv (.lst (ns.map .int))), some (.pv (lists [ns ++ [0], ns.take (ns.length - 1), ns.drop 1, [], ns ++ ns])), none, none, none] st ⟨h, _, none, none, none, rfl, by simp, by simp; omega⟩ fun i x φ st hx hi => by
    have hi5 : i < 5 := by
      have := (List.getElem?_eq_some_iff.mp hx).1
      rwa [List.length_map, upto_length] at this
    obtain ⟨L, Ls, a3, a4, a5, hφ, hn, hbd⟩ := hi
    subst hφ
    obtain ⟨k, st1, e1, hk, L1⟩ := dr L (m := (ns.length : Int)) (by omega) (by omega)
    obtain ⟨b, st2, e2, hb, L2⟩ := dr L1 (m := 8) (by decide) (by decide)
    have hk' : k < ns.length := by omega
    obtain ⟨y, hy⟩ : ∃ y, atI ([.int 0, .int 1, .int 2, .int 3, .int 4, .int (-1), .int 79, .int 1000000000000000000000000000000] : List PV) (b : Int) = some (.int y) := by
      have hb' : b = 0 ∨ b = 1 ∨ b = 2 ∨ b = 3 ∨ b = 4 ∨ b = 5 ∨ b = 6 ∨ b = 7 := by omega
      rcases hb' with z | z | z | z | z | z | z | z <;> subst z <;> exact ⟨_, rfl⟩
    have c1 : cut (ns.map PV.int) none (some (k : Int)) = (ns.take k).map .int := cut_ints (by omega)
    have c2 : cut (ns.map PV.int) (some ((k : Int) + 1)) none = (ns.drop (k + 1)).map .int := by
      have := cut_from (ns.map PV.int) (k := k + 1) (by rw [List.length_map]; omega)
      rw [← List.map_drop] at this
      simpa using this
    have c3 : cut (ns.map PV.int) (some (k : Int)) none = (ns.drop k).map .int := by
      have := cut_from (ns.map PV.int) (k := k) (by rw [List.length_map]; omega)
      rw [← List.map_drop] at this
      exact this
    have la : (ns.take k).length = k := by rw [List.length_take]; omega
    have lb : (ns.drop (k + 1)).length ≤ 1000 := by rw [List.length_drop]; omega
    have lc : (ns.drop k).length ≤ 1000 := by rw [List.length_drop]; omega
    have j1 : doBin .add (.lst ((ns.take k).map .int)) (.lst [.int y]) = some (.lst ((ns.take k ++ [y]).map .int)) := add_ints (b := [y]) (by simp; omega)
    have j2 : doBin .add (.lst ((ns.take k ++ [y]).map .int)) (.lst ((ns.drop (k + 1)).map .int)) = some (.lst ((ns.take k ++ [y] ++ ns.drop (k + 1)).map .int)) := add_ints (by simp; omega)
    have j3 : doBin .add (.lst ((ns.take k).map .int)) (.lst ((ns.drop (k + 1)).map .int)) = some (.lst ((ns.take k ++ ns.drop (k + 1)).map .int)) := add_ints (by omega)
    have j4 : doBin .add (.lst ((ns.take k ++ [y]).map .int)) (.lst ((ns.drop k).map .int)) = some (.lst ((ns.take k ++ [y] ++ ns.drop k).map .int)) := add_ints (by simp; omega)
    have jj : doBin .add (lists Ls) (lists [ns.take k ++ [y] ++ ns.drop (k + 1), ns.take k ++ ns.drop (k + 1), ns.take k ++ [y] ++ ns.drop k, ns.take k]) = some (lists (Ls ++ [ns.take k ++ [y] ++ ns.drop (k + 1), ns.take k ++ ns.drop (k + 1), ns.take k ++ [y] ++ ns.drop k, ns.take k])) := by
      rw [cat_lst (by simp; omega), ← List.map_append]
    refine ⟨[some (.ref 0), some (.pv (.lst (ns.map .int))), some (.pv (lists (Ls ++ [ns.take k ++ [y] ++ ns.drop (k + 1), ns.take k ++ ns.drop (k + 1), ns.take k ++ [y] ++ ns.drop k, ns.take k]))), some (.pv x), some (.pv (.int (k : Nat))), some (.pv (.int y))], st2, ?_, L2, _, _, _, _, rfl, by simp; omega, ?_⟩
    rotate_left
    · intro l hl
      rcases List.mem_append.mp hl with q | q
      · exact hbd l q
      · simp only [List.mem_cons, List.not_mem_nil, or_false] at q
        rcases q with q | q | q | q <;> subst q <;> simp <;> omega
    generalize hF : lists (Ls ++ [ns.take k ++ [y] ++ ns.drop (k + 1), ns.take k ++ ns.drop (k + 1), ns.take k ++ [y] ++ ns.drop k, ns.take k]) = FF at *
    simp only [lists, List.map_cons, List.map_nil] at jj
    generalize (ns.take k ++ [y] ++ ns.drop (k + 1)).map PV.int = Q1 at *
    generalize (ns.take k ++ ns.drop (k + 1)).map PV.int = Q2 at *
    generalize (ns.take k ++ [y] ++ ns.drop k).map PV.int = Q3 at *
    generalize (ns.take k ++ [y]).map PV.int = Q4 at *
    generalize (ns.take k).map PV.int = Q5 at *
    generalize (ns.drop (k + 1)).map PV.int = Q6 at *
    generalize (ns.drop k).map PV.int = Q7 at *
    have hll : doBI .len [.lst (ns.map .int)] = some (.int (ns.length : Nat)) := by simp
    generalize ns.map PV.int = N at *
    have li8 : (8 : Nat) ≤ line := by decide
    have ml : ∀ (a b c d e f g h : PV) (st : Store), mkLst false [.pv a, .pv b, .pv c, .pv d, .pv e, .pv f, .pv g, .pv h] st = some (.ok (.pv (.lst [a, b, c, d, e, f, g, h])) st) := fun _ _ _ _ _ _ _ _ _ => rfl
    simp only [lists] at *
    simp [-len_lst, forStep, hll, e1, e2, ml, p30, hy, optL, c1, c2, c3, j1, j2, j3, j4, jj]
  subst hφ
  refine ⟨Ls, st', ?_, L', hbd⟩
  have fv := forV_upto (n := 5) (by decide) (forStep S (.nm 3) [.asg (.nm 4) (.call 11 [.var 0, .bi .len [.var 1]]), .asg (.nm 5) (.idx (.lst false [.lit (.int 0), .lit (.int 1), .lit (.int 2), .lit (.int 3), .lit (.int 4), .neg (.lit (.int 1)), .lit (.int 79), .bin .pow (.lit (.int 10)) (.lit (.int 30))]) (.call 11 [.var 0, .lit (.int 8)])), .asg (.nm 2) (.bin .add (.var 2) (.lst false [.bin .add (.bin .add (.slc (.var 1) false (.lit .non) true (.var 4)) (.lst false [.var 5])) (.slc (.var 1) true (.bin .add (.var 4) (.lit (.int 1))) false (.lit .non)), .bin .add (.slc (.var 1) false (.lit .non) true (.var 4)) (.slc (.var 1) true (.bin .add (.var 4) (.lit (.int 1))) false (.lit .non)), .bin .add (.bin .add (.slc (.var 1) false (.lit .non) true (.var 4)) (.lst false [.var 5])) (.slc (.var 1) true (.var 4) false (.lit .non)), .slc (.var 1) false (.lit .non) true (.var 4)]))]) [some (.ref 0), some (.pv (.lst (ns.map .int))), some (.pv (lists [ns ++ [0], ns.take (ns.length - 1), ns.drop 1, [], ns ++ ns])), none, none, none] st
  rw [e] at fv
  have c1 : cut (ns.map PV.int) none (some (-1)) = (ns.take (ns.length - 1)).map .int := by
    unfold cut
    rw [show sIx (ns.map PV.int).length (ns.map PV.int).length (some (-1)) = ns.length - 1 by
      unfold sIx
      simp
      omega]
    simp [sIx]
  have c2 : cut (ns.map PV.int) (some 1) none = (ns.drop 1).map .int := by
    have := cut_from (ns.map PV.int) (k := 1) (by rw [List.length_map]; omega)
    rw [← List.map_drop] at this
    simpa using this
  have j1 : doBin .add (.lst (ns.map .int)) (.lst [.int 0]) = some (.lst ((ns ++ [0]).map .int)) := add_ints (b := [0]) (by simp; omega)
  have j2 : doBin .add (.lst (ns.map .int)) (.lst (ns.map .int)) = some (.lst ((ns ++ ns).map .int)) := add_ints (by omega)
  have hb : m19.body = [.asg (.nm 2) (.lst false [.bin .add (.var 1) (.lst false [.lit (.int 0)]), .slc (.var 1) false (.lit .non) true (.neg (.lit (.int 1))), .slc (.var 1) true (.lit (.int 1)) false (.lit .non), .lst false [], .bin .add (.var 1) (.var 1)]), .for_ (.nm 3) .range [.lit (.int 5)] [.asg (.nm 4) (.call 11 [.var 0, .bi .len [.var 1]]), .asg (.nm 5) (.idx (.lst false [.lit (.int 0), .lit (.int 1), .lit (.int 2), .lit (.int 3), .lit (.int 4), .neg (.lit (.int 1)), .lit (.int 79), .bin .pow (.lit (.int 10)) (.lit (.int 30))]) (.call 11 [.var 0, .lit (.int 8)])), .asg (.nm 2) (.bin .add (.var 2) (.lst false [.bin .add (.bin .add (.slc (.var 1) false (.lit .non) true (.var 4)) (.lst false [.var 5])) (.slc (.var 1) true (.bin .add (.var 4) (.lit (.int 1))) false (.lit .non)), .bin .add (.slc (.var 1) false (.lit .non) true (.var 4)) (.slc (.var 1) true (.bin .add (.var 4) (.lit (.int 1))) false (.lit .non)), .bin .add (.bin .add (.slc (.var 1) false (.lit .non) true (.var 4)) (.lst false [.var 5])) (.slc (.var 1) true (.var 4) false (.lit .non)), .slc (.var 1) false (.lit .non) true (.var 4)]))], .ret (.var 2)] := rfl
  have s0 : exS S (.asg (.nm 2) (.lst false [.bin .add (.var 1) (.lst false [.lit (.int 0)]), .slc (.var 1) false (.lit .non) true (.neg (.lit (.int 1))), .slc (.var 1) true (.lit (.int 1)) false (.lit .non), .lst false [], .bin .add (.var 1) (.var 1)])) [some (.ref 0), some (.pv (.lst (ns.map .int))), none, none, none, none] st = some (.nx [some (.ref 0), some (.pv (.lst (ns.map .int))), some (.pv (lists [ns ++ [0], ns.take (ns.length - 1), ns.drop 1, [], ns ++ ns])), none, none, none] st) := by
    simp only [lists, List.map_cons, List.map_nil]
    generalize (ns.take (ns.length - 1)).map PV.int = Q1 at *
    generalize (ns.drop 1).map PV.int = Q2 at *
    generalize (ns ++ [0]).map PV.int = Q3 at *
    generalize (ns ++ ns).map PV.int = Q4 at *
    generalize ns.map PV.int = N at *
    simp [optL, c1, c2, j1, j2]
  have ev : evEs S [.lit (.int 5)] [some (.ref 0), some (.pv (.lst (ns.map .int))), some (.pv (lists [ns ++ [0], ns.take (ns.length - 1), ns.drop 1, [], ns ++ ns])), none, none, none] st = some (.ok [.pv (.int ((5 : Nat) : Int))] st) := by simp
  have e2 : exSs S [.for_ (.nm 3) .range [.lit (.int 5)] [.asg (.nm 4) (.call 11 [.var 0, .bi .len [.var 1]]), .asg (.nm 5) (.idx (.lst false [.lit (.int 0), .lit (.int 1), .lit (.int 2), .lit (.int 3), .lit (.int 4), .neg (.lit (.int 1)), .lit (.int 79), .bin .pow (.lit (.int 10)) (.lit (.int 30))]) (.call 11 [.var 0, .lit (.int 8)])), .asg (.nm 2) (.bin .add (.var 2) (.lst false [.bin .add (.bin .add (.slc (.var 1) false (.lit .non) true (.var 4)) (.lst false [.var 5])) (.slc (.var 1) true (.bin .add (.var 4) (.lit (.int 1))) false (.lit .non)), .bin .add (.slc (.var 1) false (.lit .non) true (.var 4)) (.slc (.var 1) true (.bin .add (.var 4) (.lit (.int 1))) false (.lit .non)), .bin .add (.bin .add (.slc (.var 1) false (.lit .non) true (.var 4)) (.lst false [.var 5])) (.slc (.var 1) true (.var 4) false (.lit .non)), .slc (.var 1) false (.lit .non) true (.var 4)]))], .ret (.var 2)] [some (.ref 0), some (.pv (.lst (ns.map .int))), some (.pv (lists [ns ++ [0], ns.take (ns.length - 1), ns.drop 1, [], ns ++ ns])), none, none, none] st = some (.rt (.pv (lists Ls)) st') := by
    rw [exSs_cons, exS_for, ev, Rs.bf_ok, fv, seqS_nx]
    simp
  rw [hb]
  exact congrArg endR ((cd_picks s0).trans e2)
end
end Z53
end

section
namespace Z53
open Z
theorem cps_app (a b : PySem.Str) : (a ++ b).cps.toList = a.cps.toList ++ b.cps.toList := by
  show (a.cps ++ b.cps).toList = _
  exact Array.toList_append
theorem shown_two (a b : PV) : shown (.tup [a, b]) = 40 :: (shown a ++ (44 :: 32 :: (shown b ++ [41]))) := by
  have e1 : PySem.PyData.shown (toD (.tup [a, b])) = ("(" : PySem.Str) ++ (PySem.PyData.shown (toD a) ++ ", " ++ PySem.PyData.shown (toD b)) ++ (")" : PySem.Str) := rfl
  unfold shown
  rw [e1]
  simp only [cps_app]
  have p1 : (("(" : PySem.Str)).cps.toList = [40] := by decide
  have p2 : ((", " : PySem.Str)).cps.toList = [44, 32] := by decide
  have p3 : ((")" : PySem.Str)).cps.toList = [41] := by decide
  rw [p1, p2, p3]
  simp
theorem shown_lf {x : Nat} (h : lf x) : shown (.str [x]) = [39, x, 39] := by
  rcases h with z | z | z <;> subst z <;> decide +kernel
theorem shown_tree : ∀ c : Cd, c.good → okS (shown c.tree) = true ∧ (shown c.tree).length + 4 = 7 * c.many
  | .leaf x, g => by
    have hx : lf x := g
    simp only [Cd.tree, shown_lf hx]
    rcases hx with z | z | z <;> subst z <;> exact ⟨by decide, by decide⟩
  | .node a b, g => by
    obtain ⟨a1, a2⟩ := shown_tree a g.1
    obtain ⟨b1, b2⟩ := shown_tree b g.2
    simp only [Cd.tree, shown_two, Cd.many]
    refine ⟨?_, by simp; omega⟩
    simp only [okS, List.all_eq_true, decide_eq_true_eq] at a1 b1 ⊢
    intro y hy
    simp at hy
    rcases hy with z | z | z | z | z | z
    · omega
    · exact a1 y z
    · omega
    · omega
    · exact b1 y z
    · omega
theorem showable_tree : ∀ c : Cd, PySem.PyData.showable (toD c.tree) = true
  | .leaf x => rfl
  | .node a b => by
    have ha := showable_tree a
    have hb := showable_tree b
    simp only [Cd.tree, toD, toDs, PySem.PyData.showable, PySem.PyData.showableAll, ha, hb, Bool.and_self]
theorem repr_tree (c : Cd) (g : c.good) (hm : c.many ≤ 100) : doRepr c.tree = some (.str (shown c.tree)) := by
  obtain ⟨c1, c2⟩ := shown_tree c g
  have hl : (shown c.tree).length ≤ line := by
    have : line = 16777216 := rfl
    omega
  have hd : Z.dep c.tree ≤ maxDep := by
    have := c.dep_many
    simp only [c.depT, maxDep]
    omega
  have hs := showable_tree c
  have he := c.eqOk
  have sq : isSq c.tree = true := by cases c <;> rfl
  unfold doRepr
  simp [sq, he, hd, hs, c1, hl]
/-! ### the law -/
theorem fed0 (ns : List Int) (n : Nat) : (Pr.sem (n + 1)).call 10 [.pv (.scr ns)] [] = some (.ok (.ref 0) [feedC ns 0 0 1]) := by kernel_rfl
theorem Fed0 (ns : List Int) : Fed [feedC ns 0 0 1] := ⟨⟨ns, 0, 0, 1, ⟨by decide, by decide, by decide, by decide⟩⟩, rfl⟩
abbrev codeP (c : Cd) : PV := .tup [.str [99, 111, 100, 101], c.tree]
theorem toldB_ok {ns : List Int} {c : Cd} (h : bfin ns = .ok c) : toldB ns (bfin ns) = codeP c := by rw [h]; rfl
theorem eqOk_told (ns : List Int) (r : Except (List Int) Cd) : eqOk (toldB ns r) = true := by
  cases r with
  | error q => rfl
  | ok c => simp [toldB, eqOk, eqOks, c.eqOk]
theorem cfin_ok {ns : List Int} {c c' : Cd} {q : List Int} (h : cfin ns c q = .ok c') : c' = c := by
  unfold cfin at h
  split at h
  · cases h
  · split at h
    · split at h
      · cases h; rfl
      · cases h
    · cases h
theorem bfin_many {ns : List Int} {c : Cd} (h : bfin ns = .ok c) : c.many ≤ 120 ∧ c.good := by
  unfold bfin at h
  split at h
  · cases h
  · split at h
    · split at h
      · rename_i c1 q p' e
        obtain ⟨_, m1, b1, g1⟩ := nc_suf e
        have b := b1 (by omega)
        rw [cfin_ok h]
        exact ⟨by omega, g1⟩
      · cases h
      · cases h
    · cases h
theorem dep_told (ns : List Int) : Z.dep (toldB ns (bfin ns)) ≤ maxDep := by
  have hm : maxDep = 500 := rfl
  cases h : bfin ns with
  | error q => simp [toldB, Z.dep, Z.deps, hm]
  | ok c =>
    have := (bfin_many h).1
    have := c.dep_many
    simp [toldB, Z.dep, Z.deps, hm, c.depT]
    omega
theorem ne_told (ns : List Int) : doCmp .ne (toldB ns (bfin ns)) (toldB ns (bfin ns)) = some false := ne_self (eqOk_told _ _) (dep_told _)
theorem repr_code (c : Cd) (g : c.good) (hm : c.many ≤ 100) : doBI .repr [codeP c] = some (.str (shown (codeP c))) := by
  obtain ⟨c1, c2⟩ := shown_tree c g
  have sc : shown (.str [99, 111, 100, 101]) = [39, 99, 111, 100, 101, 39] := by decide +kernel
  have hl : (shown (codeP c)).length ≤ line := by
    have : line = 16777216 := rfl
    simp only [codeP, shown_two, sc]
    simp
    omega
  have ho : okS (shown (codeP c)) = true := by
    simp only [codeP, shown_two, sc]
    simp only [okS, List.all_eq_true, decide_eq_true_eq] at c1 ⊢
    intro y hy
    simp at hy
    rcases hy with z | z | z | z | z | z | z | z | z | z | z
    all_goals first | omega | exact c1 y z
  have hd : Z.dep (codeP c) ≤ maxDep := by
    have := c.dep_many
    have hm : maxDep = 500 := rfl
    simp [codeP, Z.dep, Z.deps, c.depT, hm]
    omega
  have hs : PySem.PyData.showable (toD (codeP c)) = true := by
    have := showable_tree c
    simp only [codeP, toD, toDs, PySem.PyData.showable, PySem.PyData.showableAll, this, Bool.and_self]
  have he : eqOk (codeP c) = true := by simp [codeP, eqOk, eqOks, c.eqOk]
  show doRepr (codeP c) = _
  unfold doRepr
  have sq : isSq (codeP c) = true := rfl
  simp only [sq, he, decide_eq_true hd, hs, ho, decide_eq_true hl, Bool.and_self, if_true]
abbrev lw (ns : List Int) (a2 a3 a4 a5 a6 a7 a8 a9 a10 : Option LV) : Slots := [some (.pv (.scr ns)), some (.ref 0), a2, a3, a4, a5, a6, a7, a8, a9, a10]
abbrev pB : List MS := [.iff (.cmp .ne (.call 15 [.var 9]) (.call 16 [.var 9])) [.ret (.lit (.bl false))] []]
abbrev bB : List MS := [.for_ (.nm 9) .val [.lst false [.var 8, .bin .add (.slc (.var 8) false (.lit .non) true (.neg (.lit (.int 1)))) (.lst false [.bin .mod (.bi .int [.bi .sum [.slc (.var 8) false (.lit .non) true (.neg (.lit (.int 1)))]]) (.lit (.int 251))])]] [.iff (.cmp .ne (.call 15 [.var 9]) (.call 16 [.var 9])) [.ret (.lit (.bl false))] []]]
section
variable {n : Nat} {ns : List Int}
theorem paper_step (hn : 127 ≤ n) (l : List Int) (a2 a3 a4 a5 a6 a7 a8 a9 a10 : Option LV) (st : Store) : forStep (Pr.sem n) (.nm 9) pB (.lst (l.map .int)) (lw ns a2 a3 a4 a5 a6 a7 a8 a9 a10) st = some (.nx (lw ns a2 a3 a4 a5 a6 a7 a8 (some (.pv (.lst (l.map .int)))) a10) st) := by
  obtain ⟨n, rfl⟩ : ∃ j, n = j + 1 := ⟨n - 1, by omega⟩
  have t := told_call (n := n + 1) hn l st
  have d := due_call (n := n) l st
  have ne := ne_told l
  generalize toldB l (bfin l) = T at *
  generalize l.map PV.int = L at *
  simp only [forStep, asgG_nm]
  show exSs (Pr.sem (n + 1)) pB (lw ns a2 a3 a4 a5 a6 a7 a8 (some (.pv (.lst L))) a10) st = _
  simp [t, d, ne]
theorem cut_m1 (l : List Int) : cut (l.map PV.int) none (some (-1)) = (l.take (l.length - 1)).map .int := by
  unfold cut
  rw [show sIx (l.map PV.int).length (l.map PV.int).length (some (-1)) = l.length - 1 by
    unfold sIx
    simp
    omega]
  simp [sIx]
theorem bent_step (hn : 127 ≤ n) (l : List Int) (hl : l.length ≤ 10000) (a2 a3 a4 a5 a6 a7 a8 a9 a10 : Option LV) (st : Store) : ∃ b9, forStep (Pr.sem n) (.nm 8) bB (.lst (l.map .int)) (lw ns a2 a3 a4 a5 a6 a7 a8 a9 a10) st = some (.nx (lw ns a2 a3 a4 a5 a6 a7 (some (.pv (.lst (l.map .int)))) b9 a10) st) := by
  obtain ⟨y, hy⟩ : ∃ y, y = (l.take (l.length - 1)).sum % 251 := ⟨_, rfl⟩
  have hline : line = 16777216 := rfl
  refine ⟨some (.pv (.lst ((l.take (l.length - 1) ++ [y]).map .int))), ?_⟩
  have c1 := cut_m1 l
  have sm := sum_ints (l.take (l.length - 1))
  have bi : ∀ i : Int, doBI .int [.int i] = some (.int i) := fun _ => rfl
  have md : doBin .mod (.int (l.take (l.length - 1)).sum) (.int 251) = some (.int y) := by rw [hy]; rfl
  have j1 : doBin .add (.lst ((l.take (l.length - 1)).map .int)) (.lst [.int y]) = some (.lst ((l.take (l.length - 1) ++ [y]).map .int)) := add_ints (b := [y]) (by simp; omega)
  have ev : evEs (Pr.sem n) [.lst false [.var 8, .bin .add (.slc (.var 8) false (.lit .non) true (.neg (.lit (.int 1)))) (.lst false [.bin .mod (.bi .int [.bi .sum [.slc (.var 8) false (.lit .non) true (.neg (.lit (.int 1)))]]) (.lit (.int 251))])]] (lw ns a2 a3 a4 a5 a6 a7 (some (.pv (.lst (l.map .int)))) a9 a10) st = some (.ok [.pv (.lst [.lst (l.map .int), .lst ((l.take (l.length - 1) ++ [y]).map .int)])] st) := by
    generalize (l.take (l.length - 1) ++ [y]).map PV.int = Q1 at *
    generalize (l.take (l.length - 1)).map PV.int = Q2 at *
    generalize l.map PV.int = L at *
    simp [optL, c1, sm, bi, md, j1]
  simp only [forStep, asgG_nm]
  show exSs (Pr.sem n) bB (lw ns a2 a3 a4 a5 a6 a7 (some (.pv (.lst (l.map .int)))) a9 a10) st = _
  rw [exSs_one, exS_for, ev, Rs.bf_ok, forV_lst, forLoop_cons, paper_step hn]
  simp only
  rw [forLoop_cons, paper_step hn]
  rfl
theorem bent_loop (hn : 127 ≤ n) (a2 a3 a4 a5 a6 a7 a10 : Option LV) (st : Store) : ∀ (Ls : List (List Int)) (a8 a9 : Option LV), (∀ l ∈ Ls, l.length ≤ 10000) → ∃ b8 b9, forLoop (forStep (Pr.sem n) (.nm 8) bB) (Ls.map fun l => .lst (l.map .int)) (lw ns a2 a3 a4 a5 a6 a7 a8 a9 a10) st = some (.nx (lw ns a2 a3 a4 a5 a6 a7 b8 b9 a10) st)
  | [], a8, a9, _ => ⟨a8, a9, rfl⟩
  | l :: Ls, a8, a9, h => by
    obtain ⟨b9, e⟩ := bent_step (ns := ns) hn l (h l (by simp)) a2 a3 a4 a5 a6 a7 a8 a9 a10 st
    obtain ⟨c8, c9, ih⟩ := bent_loop hn a2 a3 a4 a5 a6 a7 a10 st Ls (some (.pv (.lst (l.map .int)))) b9 (fun x hx => h x (by simp [hx]))
    refine ⟨c8, c9, ?_⟩
    rw [List.map_cons, forLoop_cons, e]
    exact ih
end
end Z53
end

section
namespace Z53
open Z
/-! ### a turn of the law -/
abbrev tB : List MS := [.asg (.nm 5) (.call 13 [.var 1, .lit (.int 12)]), .asg (.nm 6) (.call 17 [.var 5]), .asg (.nm 7) (.call 8 [.var 5]), .iff (.boolop false [.not (.val (.isi .list (.var 7))), .cmp .ne (.var 7) (.var 6), .cmp .gt (.bi .len [.lcW false (.var 10) (.nm 10) (.var 7) [.not (.val (.call 12 [.var 10]))] [10]]) (.lit (.int 0)), .cmp .ne (.call 15 [.var 7]) (.tup [.lit (.str [99, 111, 100, 101]), .var 5])]) [.ret (.lit (.bl false))] [], .iff (.boolop false [.cmp .ne (.bi .repr [.call 15 [.var 7]]) (.bi .repr [.tup [.lit (.str [99, 111, 100, 101]), .var 5]]), .cmp .ne (.call 9 [.frz (.call 8 [.call 5 [.call 2 [.var 5]]])]) (.var 5)]) [.ret (.lit (.bl false))] [], .ex (.bm .append (.var 7) [.lit (.int 0)]), .iff (.cmp .ne (.call 8 [.var 5]) (.var 6)) [.ret (.lit (.bl false))] [], .for_ (.nm 8) .val [.call 19 [.var 1, .var 6]] [.for_ (.nm 9) .val [.lst false [.var 8, .bin .add (.slc (.var 8) false (.lit .non) true (.neg (.lit (.int 1)))) (.lst false [.bin .mod (.bi .int [.bi .sum [.slc (.var 8) false (.lit .non) true (.neg (.lit (.int 1)))]]) (.lit (.int 251))])]] [.iff (.cmp .ne (.call 15 [.var 9]) (.call 16 [.var 9])) [.ret (.lit (.bl false))] []]]]
theorem tB_eq : tB = [.asg (.nm 5) (.call 13 [.var 1, .lit (.int 12)]), .asg (.nm 6) (.call 17 [.var 5]), .asg (.nm 7) (.call 8 [.var 5])] ++ ([.iff (.boolop false [.not (.val (.isi .list (.var 7))), .cmp .ne (.var 7) (.var 6), .cmp .gt (.bi .len [.lcW false (.var 10) (.nm 10) (.var 7) [.not (.val (.call 12 [.var 10]))] [10]]) (.lit (.int 0)), .cmp .ne (.call 15 [.var 7]) (.tup [.lit (.str [99, 111, 100, 101]), .var 5])]) [.ret (.lit (.bl false))] [], .iff (.boolop false [.cmp .ne (.bi .repr [.call 15 [.var 7]]) (.bi .repr [.tup [.lit (.str [99, 111, 100, 101]), .var 5]]), .cmp .ne (.call 9 [.frz (.call 8 [.call 5 [.call 2 [.var 5]]])]) (.var 5)]) [.ret (.lit (.bl false))] []] ++ ([.ex (.bm .append (.var 7) [.lit (.int 0)]), .iff (.cmp .ne (.call 8 [.var 5]) (.var 6)) [.ret (.lit (.bl false))] []] ++ [.for_ (.nm 8) .val [.call 19 [.var 1, .var 6]] [.for_ (.nm 9) .val [.lst false [.var 8, .bin .add (.slc (.var 8) false (.lit .non) true (.neg (.lit (.int 1)))) (.lst false [.bin .mod (.bi .int [.bi .sum [.slc (.var 8) false (.lit .non) true (.neg (.lit (.int 1)))]]) (.lit (.int 251))])]] [.iff (.cmp .ne (.call 15 [.var 9]) (.call 16 [.var 9])) [.ret (.lit (.bl false))] []]]])) := rfl
section
variable {n : Nat} {ns : List Int}
theorem lc_none {S : Sem} (hw : ∀ (i : Int) (st : Store), S.call 12 [.pv (.int i)] st = some (.ok (.pv (.bl true)) st)) {st : Store} {r : Nat} {l : List Int} (hr : st[r]? = some (iL l)) (a2 a3 a4 a5 a6 a7 a8 a9 a10 : Option LV) : lcWV false (.ref r) (lcWStep S (.var 10) (.nm 10) [.not (.val (.call 12 [.var 10]))] [10] (lw ns a2 a3 a4 a5 a6 a7 a8 a9 a10)) st = some (.ok (.pv (.lst [])) st) := by
  unfold lcWV
  have wf : walkF r st = l.length + 1001 := by unfold walkF; rw [hr]; simp
  simp only [wf]
  rw [lcWalk_pure hr (fun _ => []) (fun x hx => ?_) _ 0 (Nat.zero_le _) (by simp)]
  · have : (((((l.map PV.int).map LV.pv)).drop 0).map fun _ : LV => ([] : List LV)).flatten = [] := by
      rw [List.flatten_eq_nil_iff]
      intro y hy
      obtain ⟨_, _, e⟩ := List.mem_map.mp hy
      exact e.symm
    simp only [this]
    rfl
  · obtain ⟨p, hp, e⟩ := List.mem_map.mp hx
    obtain ⟨i, hi, e2⟩ := List.mem_map.mp hp
    subst e2 e
    simp [lcWStep, wipeL, hw]
theorem turn_call {st : Store} (h : HasF st) (x : PV) (a2 a3 a4 a5 a6 a7 a8 a9 a10 : Option LV) : ∃ b2 b5 b6 b7 b8 b9 st', forStep (Pr.sem (n + 130)) (.nm 2) tB x (lw ns a2 a3 a4 a5 a6 a7 a8 a9 a10) st = some (.nx (lw ns b2 a3 a4 b5 b6 b7 b8 b9 a10) st') ∧ HasF st' := by
  have f0 : forStep (Pr.sem (n + 130)) (.nm 2) tB x (lw ns a2 a3 a4 a5 a6 a7 a8 a9 a10) st = exSs (Pr.sem (n + 130)) tB (lw ns (some (.pv x)) a3 a4 a5 a6 a7 a8 a9 a10) st := by simp only [forStep, asgG_nm]; rfl
  have hline : line = 16777216 := rfl
  obtain ⟨c, st1, e1, L1, g, hm⟩ := some_code (n := n + 128) (M := 12) (by decide) (by decide) h
  have cd := c.dep_many
  have wc := whole_call (n := n + 130) g (by omega) (by omega) st1
  have bc := boc_call (n := n + 130) g (by omega) (by omega) st1
  have wl := whole_len c
  obtain ⟨w, hw⟩ : ∃ w, w = wholeN c := ⟨_, rfl⟩
  have bw := (bfin_whole g).1 (by omega)
  rw [← hw] at wc bc wl bw
  have s0 : exSs (Pr.sem (n + 130)) [.asg (.nm 5) (.call 13 [.var 1, .lit (.int 12)]), .asg (.nm 6) (.call 17 [.var 5]), .asg (.nm 7) (.call 8 [.var 5])] (lw ns (some (.pv x)) a3 a4 a5 a6 a7 a8 a9 a10) st = some (.nx (lw ns (some (.pv x)) a3 a4 (some (.pv c.tree)) (some (.pv (.lst (w.map .int)))) (some (.ref st1.length)) a8 a9 a10) (st1 ++ [iL w])) := by
    generalize w.map PV.int = W at *
    simp at e1
    simp [e1, wc, bc]
  -- the second store
  have hr : (st1 ++ [iL w])[st1.length]? = some (iL w) := by simp
  have F2 : HasF (st1 ++ [iL w]) := hasF_app L1.1
  have pk : peek (st1 ++ [iL w]) (.ref st1.length) = some (.lst (w.map .int)) := peek_ref hr
  have cm : cmpT .ne (.ref st1.length) (.pv (.lst (w.map .int))) (st1 ++ [iL w]) = some (.ok false (st1 ++ [iL w])) := by simp [cmpT, pk, ne_ints w]
  have lc := lc_none (S := Pr.sem (n + 130)) (ns := ns) (fun i st => whole_int (n := n + 129) i st) hr (some (.pv x)) a3 a4 (some (.pv c.tree)) (some (.pv (.lst (w.map .int)))) (some (.ref st1.length)) a8 a9 a10
  have tr1 := told_ref (n := n + 130) (by omega) w hr
  rw [toldB_ok bw] at tr1
  have nc := ne_told w
  rw [toldB_ok bw] at nc
  have rc := repr_code c g (by omega)
  have tx := call1 (P := Pr) (f := 2) (st := st1 ++ [iL w]) rfl (text_of c (n + 130) (by omega) (by have := c.text_len; omega))
  have ct : Pr.cal (n + 130) 5 [.pv (.str c.text)] [] = some (.ok (.pv c.tree) []) := by
    have hp := pc_of_text c (n + 128) [] g (by omega)
    rw [List.append_nil] at hp
    have e := code_ok (m := n + 128) (t := c.text) (by have := c.text_len; omega) hp
    have hf : fin (.ok (c, [])) = .ok c := by
      simp only [fin]
      rw [if_neg (by omega)]
    rw [hf] at e
    exact e
  have ct' := call1 (P := Pr) (f := 5) (st := st1 ++ [iL w]) rfl ct
  have bc2 := boc_call (n := n + 130) g (by omega) (by omega) (st1 ++ [iL w])
  rw [← hw] at bc2
  have hN : (st1 ++ [iL w]).length = st1.length + 1 := by simp
  obtain ⟨st2, hst2⟩ : ∃ st2, st2 = st1 ++ [iL w] := ⟨_, rfl⟩
  rw [← hst2] at hr F2 pk cm lc tr1 tx ct' bc2 hN s0
  have hr3 : (st2 ++ [iL w])[st2.length]? = some (iL w) := by simp
  have fz := frz_ref (ps := w.map .int) hr3
  obtain ⟨st3, hst3⟩ : ∃ st3, st3 = (st2 ++ [iL w]).set st2.length (.lst false ((w.map PV.int).map .pv)) := ⟨_, rfl⟩
  rw [← hst3] at fz
  have cb := cob_call (n := n + 130) (by omega) w st3
  rw [bw] at cb
  simp only at cb
  have nt : doCmp .ne c.tree c.tree = some false := ne_self c.eqOk (by rw [c.depT]; show c.dep ≤ 500; omega)
  have sh : eqOk (.str (shown (codeP c))) = true := rfl
  have s1 : exSs (Pr.sem (n + 130)) [.iff (.boolop false [.not (.val (.isi .list (.var 7))), .cmp .ne (.var 7) (.var 6), .cmp .gt (.bi .len [.lcW false (.var 10) (.nm 10) (.var 7) [.not (.val (.call 12 [.var 10]))] [10]]) (.lit (.int 0)), .cmp .ne (.call 15 [.var 7]) (.tup [.lit (.str [99, 111, 100, 101]), .var 5])]) [.ret (.lit (.bl false))] [], .iff (.boolop false [.cmp .ne (.bi .repr [.call 15 [.var 7]]) (.bi .repr [.tup [.lit (.str [99, 111, 100, 101]), .var 5]]), .cmp .ne (.call 9 [.frz (.call 8 [.call 5 [.call 2 [.var 5]]])]) (.var 5)]) [.ret (.lit (.bl false))] []] (lw ns (some (.pv x)) a3 a4 (some (.pv c.tree)) (some (.pv (.lst (w.map .int)))) (some (.ref st1.length)) a8 a9 a10) st2 = some (.nx (lw ns (some (.pv x)) a3 a4 (some (.pv c.tree)) (some (.pv (.lst (w.map .int)))) (some (.ref st1.length)) a8 a9 a10) st3) := by
    generalize w.map PV.int = W at *
    simp only [codeP] at tr1 nc rc
    generalize shown (.tup [.str [99, 111, 100, 101], c.tree]) = SH at *
    generalize st2 ++ [iL w] = st23 at *
    generalize c.tree = C at *
    simp [pk, cm, lc, tr1, nc, rc, tx, ct', bc2, fz, cb, nt, isTy]
  -- behind
  have h30 : st3[st1.length]? = some (iL w) := by
    rw [hst3, List.getElem?_set_ne (by omega), List.getElem?_append_left (by omega)]
    exact hr
  have F3 : HasF st3 := by
    rw [hst3]
    exact hasF_set (hasF_app F2) (by omega) _
  have ap := do_append (v := .pv (.int 0)) h30 (by simp; omega)
  have bo := bm_append h30
  obtain ⟨st4, hst4⟩ : ∃ st4, st4 = st3.set st1.length (.lst true ((w.map PV.int).map .pv ++ [.pv (.int 0)])) := ⟨_, rfl⟩
  rw [← hst4] at ap
  have p1 : 0 < st1.length := by
    obtain ⟨F, hF⟩ := L1.1
    exact (List.getElem?_eq_some_iff.mp hF).1
  have F4 : HasF st4 := by rw [hst4]; exact hasF_set F3 (by omega) _
  have bc4 := boc_call (n := n + 130) g (by omega) (by omega) st4
  rw [← hw] at bc4
  have hr5 : (st4 ++ [iL w])[st4.length]? = some (iL w) := by simp
  have pk5 : peek (st4 ++ [iL w]) (.ref st4.length) = some (.lst (w.map .int)) := peek_ref hr5
  have cm5 : cmpT .ne (.ref st4.length) (.pv (.lst (w.map .int))) (st4 ++ [iL w]) = some (.ok false (st4 ++ [iL w])) := by simp [cmpT, pk5, ne_ints w]
  have F5 : HasF (st4 ++ [iL w]) := hasF_app F4
  have s2 : exSs (Pr.sem (n + 130)) [.ex (.bm .append (.var 7) [.lit (.int 0)]), .iff (.cmp .ne (.call 8 [.var 5]) (.var 6)) [.ret (.lit (.bl false))] []] (lw ns (some (.pv x)) a3 a4 (some (.pv c.tree)) (some (.pv (.lst (w.map .int)))) (some (.ref st1.length)) a8 a9 a10) st3 = some (.nx (lw ns (some (.pv x)) a3 a4 (some (.pv c.tree)) (some (.pv (.lst (w.map .int)))) (some (.ref st1.length)) a8 a9 a10) (st4 ++ [iL w])) := by
    generalize st4 ++ [iL w] = st5 at *
    generalize w.map PV.int = W at *
    generalize c.tree = C at *
    simp [bo, ap, bc4, cm5]
  obtain ⟨st5, hst5⟩ : ∃ st5, st5 = st4 ++ [iL w] := ⟨_, rfl⟩
  rw [← hst5] at F5 s2
  obtain ⟨Ls, st6, e6, L6, hb⟩ := bent_call (n := n + 128) (ns := w) (by omega) (by omega) (Lk.refl F5)
  obtain ⟨b8, b9, e7⟩ := bent_loop (n := n + 130) (ns := ns) (by omega) (some (.pv x)) a3 a4 (some (.pv c.tree)) (some (.pv (.lst (w.map .int)))) (some (.ref st1.length)) a10 st6 Ls a8 a9 (fun l hl => by have := hb l hl; omega)
  have s3 : exSs (Pr.sem (n + 130)) [.for_ (.nm 8) .val [.call 19 [.var 1, .var 6]] [.for_ (.nm 9) .val [.lst false [.var 8, .bin .add (.slc (.var 8) false (.lit .non) true (.neg (.lit (.int 1)))) (.lst false [.bin .mod (.bi .int [.bi .sum [.slc (.var 8) false (.lit .non) true (.neg (.lit (.int 1)))]]) (.lit (.int 251))])]] [.iff (.cmp .ne (.call 15 [.var 9]) (.call 16 [.var 9])) [.ret (.lit (.bl false))] []]]] (lw ns (some (.pv x)) a3 a4 (some (.pv c.tree)) (some (.pv (.lst (w.map .int)))) (some (.ref st1.length)) a8 a9 a10) st5 = some (.nx (lw ns (some (.pv x)) a3 a4 (some (.pv c.tree)) (some (.pv (.lst (w.map .int)))) (some (.ref st1.length)) b8 b9 a10) st6) := by
    have ev : evEs (Pr.sem (n + 130)) [.call 19 [.var 1, .var 6]] (lw ns (some (.pv x)) a3 a4 (some (.pv c.tree)) (some (.pv (.lst (w.map .int)))) (some (.ref st1.length)) a8 a9 a10) st5 = some (.ok [.pv (lists Ls)] st6) := by
      generalize w.map PV.int = W at *
      generalize lists Ls = LL at *
      simp [e6]
    rw [exSs_one, exS_for, ev, Rs.bf_ok, forV_lst, e7]
  refine ⟨some (.pv x), some (.pv c.tree), some (.pv (.lst (w.map .int))), some (.ref st1.length), b8, b9, st6, ?_, L6.1⟩
  rw [f0, tB_eq, exSs_app, s0, seqS_nx, exSs_app, s1, seqS_nx, exSs_app, s2, seqS_nx, s3]
end
abbrev D : Nat := 131
theorem closed_b : bfin [79, 1, 80] = .ok (.leaf 66) := by rfl
theorem closed_1 : bfin [79, 0, 1] = .error [] := by rfl
theorem closed_2 : bfin [79, 1, 81] = .error [81] := by rfl
theorem closed_3 : bfin [78, 1, 79] = .error [78, 1, 79] := by rfl
theorem closed_4 : bfin [79, 4] = .error [4] := by rfl
theorem closed_5 : bfin [79, 1, 80, 0] = .error [0] := by rfl
theorem closed_w : wholeN (.node (.node (.leaf 66) (.leaf 67)) (.leaf 73)) = [79, 0, 0, 1, 2, 3, 85] := by rfl
theorem law (ns : List Int) (hl : ns.length ≤ 63) : ∃ st, Pr.cal D 20 [.pv (.scr ns)] [] = some (.ok (.pv (.bl true)) st) := by
  rw [cal_eq Pr 130 20 m20 _ _ rfl rfl]
  let I : Nat → Slots → Store → Prop := fun _ φ st => HasF st ∧ ∃ a2 a3 a4 a5 a6 a7 a8 a9 a10, φ = lw ns a2 a3 a4 a5 a6 a7 a8 a9 a10
  obtain ⟨φ', st1, e, F1, b2, b3, b4, b5, b6, b7, b8, b9, b10, hφ⟩ := forLoop_inv (step := forStep (Pr.sem 130) (.nm 2) tB) I ((upto 0 4).map .int) 0 (lw ns none none none none none none none none none) [feedC ns 0 0 1] ⟨(Fed0 ns).hasF, _, _, _, _, _, _, _, _, _, rfl⟩ fun i x φ st _ hi => by
    obtain ⟨F, a2, a3, a4, a5, a6, a7, a8, a9, a10, hφ⟩ := hi
    subst hφ
    obtain ⟨b2, b5, b6, b7, b8, b9, st', e, F'⟩ := turn_call (n := 0) (ns := ns) F x a2 a3 a4 a5 a6 a7 a8 a9 a10
    exact ⟨_, _, e, F', _, _, _, _, _, _, _, _, _, rfl⟩
  subst hφ
  have fv := forV_upto (n := 4) (by decide) (forStep (Pr.sem 130) (.nm 2) tB) (lw ns none none none none none none none none none) [feedC ns 0 0 1]
  rw [e] at fv
  have hb : m20.body = [.asg (.nm 1) (.call 10 [.var 0]), .for_ (.nm 2) .range [.lit (.int 4)] [.asg (.nm 5) (.call 13 [.var 1, .lit (.int 12)]), .asg (.nm 6) (.call 17 [.var 5]), .asg (.nm 7) (.call 8 [.var 5]), .iff (.boolop false [.not (.val (.isi .list (.var 7))), .cmp .ne (.var 7) (.var 6), .cmp .gt (.bi .len [.lcW false (.var 10) (.nm 10) (.var 7) [.not (.val (.call 12 [.var 10]))] [10]]) (.lit (.int 0)), .cmp .ne (.call 15 [.var 7]) (.tup [.lit (.str [99, 111, 100, 101]), .var 5])]) [.ret (.lit (.bl false))] [], .iff (.boolop false [.cmp .ne (.bi .repr [.call 15 [.var 7]]) (.bi .repr [.tup [.lit (.str [99, 111, 100, 101]), .var 5]]), .cmp .ne (.call 9 [.frz (.call 8 [.call 5 [.call 2 [.var 5]]])]) (.var 5)]) [.ret (.lit (.bl false))] [], .ex (.bm .append (.var 7) [.lit (.int 0)]), .iff (.cmp .ne (.call 8 [.var 5]) (.var 6)) [.ret (.lit (.bl false))] [], .for_ (.nm 8) .val [.call 19 [.var 1, .var 6]] [.for_ (.nm 9) .val [.lst false [.var 8, .bin .add (.slc (.var 8) false (.lit .non) true (.neg (.lit (.int 1)))) (.lst false [.bin .mod (.bi .int [.bi .sum [.slc (.var 8) false (.lit .non) true (.neg (.lit (.int 1)))]]) (.lit (.int 251))])]] [.iff (.cmp .ne (.call 15 [.var 9]) (.call 16 [.var 9])) [.ret (.lit (.bl false))] []]]]] ++ [.asg (.nm 3) (.bin .add (.lit (.int 119)) (.call 11 [.var 1, .lit (.int 4)])), .asg (.nm 4) (.call 17 [.call 18 [.var 1, .var 3]]), .iff (.boolop false [.cmp .ne (.call 15 [.var 4]) (.call 16 [.var 4]), .cmp .ne (.cmp .eq (.idx (.call 15 [.var 4]) (.lit (.int 0))) (.lit (.str [98, 97, 100]))) (.cmp .gt (.var 3) (.lit (.int 120)))]) [.ret (.lit (.bl false))] [], .iff (.boolop false [.cmp .ne (.call 8 [.tup [.tup [.lit (.str [66]), .lit (.str [67])], .lit (.str [73])]]) (.lst false [.lit (.int 79), .lit (.int 0), .lit (.int 0), .lit (.int 1), .lit (.int 2), .lit (.int 3), .lit (.int 85)]), .cmp .ne (.call 15 [.lst false [.lit (.int 79), .lit (.int 1), .lit (.int 80)]]) (.tup [.lit (.str [99, 111, 100, 101]), .lit (.str [66])]), .cmp .ne (.call 15 [.lst false [.lit (.int 79), .lit (.int 0), .lit (.int 1)]]) (.tup [.lit (.str [98, 97, 100]), .lit (.int 3)])]) [.ret (.lit (.bl false))] [], .ret (.boolop true [.cmp .eq (.call 15 [.lst false [.lit (.int 79), .lit (.int 1), .lit (.int 81)]]) (.tup [.lit (.str [98, 97, 100]), .lit (.int 2)]), .cmp .eq (.call 15 [.lst false [.lit (.int 78), .lit (.int 1), .lit (.int 79)]]) (.tup [.lit (.str [98, 97, 100]), .lit (.int 0)]), .cmp .eq (.call 15 [.lst false [.lit (.int 79), .lit (.int 4)]]) (.tup [.lit (.str [98, 97, 100]), .lit (.int 1)]), .cmp .eq (.call 15 [.lst false [.lit (.int 79), .lit (.int 1), .lit (.int 80), .lit (.int 0)]]) (.tup [.lit (.str [98, 97, 100]), .lit (.int 3)])])] := rfl
  have s01 : exSs (Pr.sem 130) [.asg (.nm 1) (.call 10 [.var 0]), .for_ (.nm 2) .range [.lit (.int 4)] [.asg (.nm 5) (.call 13 [.var 1, .lit (.int 12)]), .asg (.nm 6) (.call 17 [.var 5]), .asg (.nm 7) (.call 8 [.var 5]), .iff (.boolop false [.not (.val (.isi .list (.var 7))), .cmp .ne (.var 7) (.var 6), .cmp .gt (.bi .len [.lcW false (.var 10) (.nm 10) (.var 7) [.not (.val (.call 12 [.var 10]))] [10]]) (.lit (.int 0)), .cmp .ne (.call 15 [.var 7]) (.tup [.lit (.str [99, 111, 100, 101]), .var 5])]) [.ret (.lit (.bl false))] [], .iff (.boolop false [.cmp .ne (.bi .repr [.call 15 [.var 7]]) (.bi .repr [.tup [.lit (.str [99, 111, 100, 101]), .var 5]]), .cmp .ne (.call 9 [.frz (.call 8 [.call 5 [.call 2 [.var 5]]])]) (.var 5)]) [.ret (.lit (.bl false))] [], .ex (.bm .append (.var 7) [.lit (.int 0)]), .iff (.cmp .ne (.call 8 [.var 5]) (.var 6)) [.ret (.lit (.bl false))] [], .for_ (.nm 8) .val [.call 19 [.var 1, .var 6]] [.for_ (.nm 9) .val [.lst false [.var 8, .bin .add (.slc (.var 8) false (.lit .non) true (.neg (.lit (.int 1)))) (.lst false [.bin .mod (.bi .int [.bi .sum [.slc (.var 8) false (.lit .non) true (.neg (.lit (.int 1)))]]) (.lit (.int 251))])]] [.iff (.cmp .ne (.call 15 [.var 9]) (.call 16 [.var 9])) [.ret (.lit (.bl false))] []]]]] ([.pv (.scr ns)].map some ++ List.replicate (m20.nn - m20.ar) none) [] = some (.nx (lw ns b2 b3 b4 b5 b6 b7 b8 b9 b10) st1) := by
    have f0 := fed0 ns 129
    simp at f0
    have hm : (m20.nn - m20.ar) = 10 := rfl
    rw [hm]
    simp [f0] at fv ⊢
    simp [fv]
  rw [hb, exSs_app, s01, seqS_nx]
  -- a long one
  obtain ⟨k, st2, e2, hk, L2⟩ := lk_draw (n := 129) hdraw (Lk.refl F1) (m := 4) (by decide) (by decide)
  obtain ⟨c, st3, e3, L3, g, hm⟩ := long_call (n := 128) (M := 119 + k) (by omega) (by omega) L2
  have cd := c.dep_many
  have wc := whole_call (n := 130) g (by omega) (by omega) st3
  have tc := told_call (n := 130) (by decide) (wholeN c) st3
  have dc := due_call (n := 129) (wholeN c) st3
  have ne := ne_told (wholeN c)
  have bd : doIdx (toldB (wholeN c) (bfin (wholeN c))) (.int 0) = some (.str (if 120 < c.many then [98, 97, 100] else [99, 111, 100, 101])) := by
    by_cases h : 120 < c.many
    · obtain ⟨q, hq⟩ := (bfin_whole g).2 h
      rw [hq, if_pos h]
      rfl
    · rw [(bfin_whole g).1 (by omega), if_neg h]
      rfl
  have kk : (119 : Int) + (k : Int) = ((119 + k : Nat) : Int) := by push_cast; rfl
  have tb : (if 120 < c.many then ([98, 97, 100] : Sg) else [99, 111, 100, 101]) = [98, 97, 100] ↔ 120 < c.many := by
    by_cases h : 120 < c.many
    · rw [if_pos h]; exact ⟨fun _ => h, fun _ => rfl⟩
    · rw [if_neg h]; exact ⟨fun z => by simp at z, fun z => absurd z h⟩
  have tk : (120 < (119 : Int) + (k : Int)) ↔ 120 < c.many := by omega
  have s2 : exSs (Pr.sem 130) [.asg (.nm 3) (.bin .add (.lit (.int 119)) (.call 11 [.var 1, .lit (.int 4)])), .asg (.nm 4) (.call 17 [.call 18 [.var 1, .var 3]]), .iff (.boolop false [.cmp .ne (.call 15 [.var 4]) (.call 16 [.var 4]), .cmp .ne (.cmp .eq (.idx (.call 15 [.var 4]) (.lit (.int 0))) (.lit (.str [98, 97, 100]))) (.cmp .gt (.var 3) (.lit (.int 120)))]) [.ret (.lit (.bl false))] []] (lw ns b2 b3 b4 b5 b6 b7 b8 b9 b10) st1 = some (.nx (lw ns b2 (some (.pv (.int ((119 : Int) + k)))) (some (.pv (.lst ((wholeN c).map .int)))) b5 b6 b7 b8 b9 b10) st3) := by
    rw [← kk] at e3
    generalize toldB (wholeN c) (bfin (wholeN c)) = T at *
    generalize (wholeN c).map PV.int = W at *
    generalize (if 120 < c.many then ([98, 97, 100] : Sg) else [99, 111, 100, 101]) = Q at *
    simp [e2, e3, wc, tc, dc, ne, bd, tb, tk]
  have bc := boc_call (n := 130) (c := .node (.node (.leaf 66) (.leaf 67)) (.leaf 73)) ⟨⟨.inl rfl, .inr (.inl rfl)⟩, .inr (.inr rfl)⟩ (by decide) (by decide) st3
  rw [closed_w] at bc
  have hr : (st3 ++ [iL [79, 0, 0, 1, 2, 3, 85]])[st3.length]? = some (iL [79, 0, 0, 1, 2, 3, 85]) := by simp
  have pk : peek (st3 ++ [iL [79, 0, 0, 1, 2, 3, 85]]) (.ref st3.length) = some (.lst ([79, 0, 0, 1, 2, 3, 85].map .int)) := peek_ref hr
  have ni := ne_ints [79, 0, 0, 1, 2, 3, 85]
  have cm : cmpT .ne (.ref st3.length) (.pv (.lst ([79, 0, 0, 1, 2, 3, 85].map .int))) (st3 ++ [iL [79, 0, 0, 1, 2, 3, 85]]) = some (.ok false (st3 ++ [iL [79, 0, 0, 1, 2, 3, 85]])) := by
    unfold cmpT
    rw [pk, peek_pv]
    simp only [ni, Option.map_some]
  have t0 := fun st => told_call (n := 130) (by decide) [79, 1, 80] st
  have t1 := fun st => told_call (n := 130) (by decide) [79, 0, 1] st
  have t2 := fun st => told_call (n := 130) (by decide) [79, 1, 81] st
  have t3 := fun st => told_call (n := 130) (by decide) [78, 1, 79] st
  have t4 := fun st => told_call (n := 130) (by decide) [79, 4] st
  have t5 := fun st => told_call (n := 130) (by decide) [79, 1, 80, 0] st
  simp only [closed_b, closed_1, closed_2, closed_3, closed_4, closed_5, toldB, bdP] at t0 t1 t2 t3 t4 t5
  generalize hst4 : st3 ++ [iL [79, 0, 0, 1, 2, 3, 85]] = st4 at *
  refine ⟨st4, ?_⟩
  have hb2 : ([.asg (.nm 3) (.bin .add (.lit (.int 119)) (.call 11 [.var 1, .lit (.int 4)])), .asg (.nm 4) (.call 17 [.call 18 [.var 1, .var 3]]), .iff (.boolop false [.cmp .ne (.call 15 [.var 4]) (.call 16 [.var 4]), .cmp .ne (.cmp .eq (.idx (.call 15 [.var 4]) (.lit (.int 0))) (.lit (.str [98, 97, 100]))) (.cmp .gt (.var 3) (.lit (.int 120)))]) [.ret (.lit (.bl false))] [], .iff (.boolop false [.cmp .ne (.call 8 [.tup [.tup [.lit (.str [66]), .lit (.str [67])], .lit (.str [73])]]) (.lst false [.lit (.int 79), .lit (.int 0), .lit (.int 0), .lit (.int 1), .lit (.int 2), .lit (.int 3), .lit (.int 85)]), .cmp .ne (.call 15 [.lst false [.lit (.int 79), .lit (.int 1), .lit (.int 80)]]) (.tup [.lit (.str [99, 111, 100, 101]), .lit (.str [66])]), .cmp .ne (.call 15 [.lst false [.lit (.int 79), .lit (.int 0), .lit (.int 1)]]) (.tup [.lit (.str [98, 97, 100]), .lit (.int 3)])]) [.ret (.lit (.bl false))] [], .ret (.boolop true [.cmp .eq (.call 15 [.lst false [.lit (.int 79), .lit (.int 1), .lit (.int 81)]]) (.tup [.lit (.str [98, 97, 100]), .lit (.int 2)]), .cmp .eq (.call 15 [.lst false [.lit (.int 78), .lit (.int 1), .lit (.int 79)]]) (.tup [.lit (.str [98, 97, 100]), .lit (.int 0)]), .cmp .eq (.call 15 [.lst false [.lit (.int 79), .lit (.int 4)]]) (.tup [.lit (.str [98, 97, 100]), .lit (.int 1)]), .cmp .eq (.call 15 [.lst false [.lit (.int 79), .lit (.int 1), .lit (.int 80), .lit (.int 0)]]) (.tup [.lit (.str [98, 97, 100]), .lit (.int 3)])])] : List MS) = [.asg (.nm 3) (.bin .add (.lit (.int 119)) (.call 11 [.var 1, .lit (.int 4)])), .asg (.nm 4) (.call 17 [.call 18 [.var 1, .var 3]]), .iff (.boolop false [.cmp .ne (.call 15 [.var 4]) (.call 16 [.var 4]), .cmp .ne (.cmp .eq (.idx (.call 15 [.var 4]) (.lit (.int 0))) (.lit (.str [98, 97, 100]))) (.cmp .gt (.var 3) (.lit (.int 120)))]) [.ret (.lit (.bl false))] []] ++ [.iff (.boolop false [.cmp .ne (.call 8 [.tup [.tup [.lit (.str [66]), .lit (.str [67])], .lit (.str [73])]]) (.lst false [.lit (.int 79), .lit (.int 0), .lit (.int 0), .lit (.int 1), .lit (.int 2), .lit (.int 3), .lit (.int 85)]), .cmp .ne (.call 15 [.lst false [.lit (.int 79), .lit (.int 1), .lit (.int 80)]]) (.tup [.lit (.str [99, 111, 100, 101]), .lit (.str [66])]), .cmp .ne (.call 15 [.lst false [.lit (.int 79), .lit (.int 0), .lit (.int 1)]]) (.tup [.lit (.str [98, 97, 100]), .lit (.int 3)])]) [.ret (.lit (.bl false))] [], .ret (.boolop true [.cmp .eq (.call 15 [.lst false [.lit (.int 79), .lit (.int 1), .lit (.int 81)]]) (.tup [.lit (.str [98, 97, 100]), .lit (.int 2)]), .cmp .eq (.call 15 [.lst false [.lit (.int 78), .lit (.int 1), .lit (.int 79)]]) (.tup [.lit (.str [98, 97, 100]), .lit (.int 0)]), .cmp .eq (.call 15 [.lst false [.lit (.int 79), .lit (.int 4)]]) (.tup [.lit (.str [98, 97, 100]), .lit (.int 1)]), .cmp .eq (.call 15 [.lst false [.lit (.int 79), .lit (.int 1), .lit (.int 80), .lit (.int 0)]]) (.tup [.lit (.str [98, 97, 100]), .lit (.int 3)])])] := rfl
  rw [hb2, exSs_app, s2, seqS_nx]
  have ml7 : ∀ (a b c d e f g : PV) (st : Store), mkLst false [.pv a, .pv b, .pv c, .pv d, .pv e, .pv f, .pv g] st = some (.ok (.pv (.lst [a, b, c, d, e, f, g])) st) := fun _ _ _ _ _ _ _ _ => rfl
  have q1 : doCmp .ne (.tup [.str [99, 111, 100, 101], .str [66]]) (.tup [.str [99, 111, 100, 101], .str [66]]) = some false := rfl
  have q2 : ∀ i : Int, doCmp .ne (bdP i) (bdP i) = some false := fun i => ne_self rfl (by simp [Z.dep, Z.deps, maxDep])
  have q3 : ∀ i : Int, doCmp .eq (bdP i) (bdP i) = some true := fun i => eq_self rfl (by simp [Z.dep, Z.deps, maxDep])
  simp only [bdP] at q2 q3
  simp [Cd.tree] at bc t0 t1 t2 t3 t4 t5 cm
  simp [bc, cm, ml7, t0, t1, t2, t3, t4, t5, q1, q2, q3]
end Z53
end

section
namespace Z53
open Z
end Z53
open PySem PySem.W PySem.Calls PyProof.Rows
set_option maxHeartbeats 0 in
theorem PySem.Challenge.cw_oncelinks_k53_whole_codes_as_numbers_holds : PySem.Challenge.rw_oncelinks_k53_whole_codes_as_numbers.Holds := by
  w_on; o_law
  refine HandSHeadRun.head_any (r := OpenLaw.row PySem.Challenge.rw_oncelinks_k53_whole_codes_as_numbers) (q := view (OpenLaw.row PySem.Challenge.rw_oncelinks_k53_whole_codes_as_numbers).prog [33]) (H := Z53.hk) (ob := Z53.ob) (M := 4000) (loose := Z53.loose) (d := HandSHeadRun.topDef (OpenLaw.row PySem.Challenge.rw_oncelinks_k53_whole_codes_as_numbers).prog 33) (kwd := []) Z53.ob_eq
    (by kernel_rfl) (fun s => by kernel_rfl) Z53.run (by kernel_rfl) (by kernel_rfl) (by kernel_rfl) (by rfl) (by first | assumption | decide +kernel) (by decide +kernel) ⟨rfl, rfl, rfl, rfl, rfl, by decide +kernel⟩ ?hw ?hc
  case hw => w_witness2
  case hc => exact Z.walkZ (n := 63) Z53.txt Z53.shr 1000 Z53.D 10 20 Z53.q20 "script" rfl (by decide) (by kernel_rfl) Z53.ok rfl rfl rfl rfl ⟨rfl, by decide, by decide⟩ Z53.law
namespace Z53
end Z53
end
