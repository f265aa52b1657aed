import PyProof.Rows.All
import Wide.All
import OpenK.AllK
import Wide.FinOn
import PySem.Challenge.RW_oncelinks_k15_whole_texts_of_terms
import HandS.ForMost
import HandS.ForExc
import HandS.IsInst
import HandS.CallSlots
import PyProof.ReprRoads
import HandS.HotCalls
import HandS.ExcInitHot
import HandS.ExcIs
import HandS.ExcField
import HandS.HeadHook1
import HandS.Defaults
import HandS.Flow
import HandS.Codes
import HandS.Style
import HandS.Dict
import HandS.ExcOwn
import HandS.Head0
import HandS.Head1
import HandS.Head2
import HandS.HeadEnd
import HandS.HeadHook2
import HandS.Ends
set_option Elab.async false
set_option linter.all false
set_option maxRecDepth 100000
section
/-! ZA: value trees, the small AST, its executable semantics. -/
namespace Z
abbrev Sg := List Nat
abbrev Ky := Sum Int Sg

/-- value trees: nothing in them changes any more -/
inductive PV where
  | non | bl (b : Bool) | int (i : Int) | str (s : Sg)
  | tup (xs : List PV) | lst (xs : List PV)
  | dk (kvs : List (Ky × PV)) | dt (kvs : List (List Ky × PV))
  | scr (ns : List Int)
  deriving Inhabited
structure Ex where
  cls : Nat
  fs : List (Nat × PV)
/-- what a name may hold: a tree, a cell of the store, a tuple with cells in it, the error that an except clause names -/
inductive LV where
  | pv (p : PV) | ref (n : Nat) | tup (xs : List LV) | exn (e : Ex)
  deriving Inhabited
inductive Cell where
  | lst (live : Bool) (xs : List LV)
  | dk (live : Bool) (kvs : List (Ky × LV))
  | dt (live : Bool) (kvs : List (List Ky × LV))
  | ins (C : Nat) (fs : List (Nat × LV))
  deriving Inhabited
abbrev Store := List Cell
abbrev Slots := List (Option LV)

/-! ### trees -/
mutual
def eqP : PV → PV → Bool
  | .non, .non => true
  | .bl a, .bl b => a == b
  | .bl a, .int j => (if a then 1 else 0) == j
  | .int i, .bl b => i == (if b then 1 else 0)
  | .int i, .int j => i == j
  | .str x, .str y => x == y
  | .lst xs, .lst ys => eqPs xs ys
  | .tup xs, .tup ys => eqPs xs ys
  | _, _ => false
def eqPs : List PV → List PV → Bool
  | [], [] => true
  | x :: xs, y :: ys => eqP x y && eqPs xs ys
  | _, _ => false
end
mutual
/-- fit for ==: no dict in it -/
def eqOk : PV → Bool
  | .non | .bl _ | .int _ | .str _ => true
  | .tup xs | .lst xs => eqOks xs
  | _ => false
def eqOks : List PV → Bool
  | [] => true
  | x :: xs => eqOk x && eqOks xs
end
mutual
def dep : PV → Nat
  | .tup xs | .lst xs => 1 + deps xs
  | _ => 0
def deps : List PV → Nat
  | [] => 0
  | x :: xs => max (dep x) (deps xs)
end
def maxDep : Nat := 500
def opEq (a b : PV) : Option Bool := if eqOk a && eqOk b && decide (min (dep a) (dep b) ≤ maxDep) then some (eqP a b) else none

def flat : PV → Bool
  | .non | .bl _ | .int _ | .str _ => true
  | _ => false
def line : Nat := 16777216

def unpv : List LV → Option (List PV)
  | [] => some []
  | .pv p :: xs => (unpv xs).map (p :: ·)
  | _ :: _ => none
def unpvK {κ : Type} : List (κ × LV) → Option (List (κ × PV))
  | [] => some []
  | (k, .pv p) :: xs => (unpvK xs).map ((k, p) :: ·)
  | _ :: _ => none
theorem unpv_map (xs : List PV) : unpv (xs.map .pv) = some xs := by
  induction xs with
  | nil => rfl
  | cons x xs ih => simp [unpv, ih]
theorem unpv_eq : ∀ {ls : List LV} {xs : List PV}, unpv ls = some xs → ls = xs.map .pv
  | [], xs, h => by simp [unpv] at h; subst h; rfl
  | .pv p :: ls, xs, h => by
    simp only [unpv, Option.map_eq_some_iff] at h
    obtain ⟨ys, h1, h2⟩ := h
    subst h2
    rw [unpv_eq h1]; rfl
  | .ref _ :: _, _, h => by simp [unpv] at h
  | .tup _ :: _, _, h => by simp [unpv] at h
  | .exn _ :: _, _, h => by simp [unpv] at h
theorem unpvK_map {κ : Type} (xs : List (κ × PV)) : unpvK (xs.map fun kv => (kv.1, LV.pv kv.2)) = some xs := by
  induction xs with
  | nil => rfl
  | cons x xs ih => simp [unpvK, ih]
theorem unpvK_eq {κ : Type} : ∀ {ls : List (κ × LV)} {xs : List (κ × PV)}, unpvK ls = some xs → ls = xs.map fun kv => (kv.1, LV.pv kv.2)
  | [], xs, h => by simp [unpvK] at h; subst h; rfl
  | (k, .pv p) :: ls, xs, h => by
    simp only [unpvK, Option.map_eq_some_iff] at h
    obtain ⟨ys, h1, h2⟩ := h
    subst h2
    rw [unpvK_eq h1]; rfl
  | (_, .ref _) :: _, _, h => by simp [unpvK] at h
  | (_, .tup _) :: _, _, h => by simp [unpvK] at h
  | (_, .exn _) :: _, _, h => by simp [unpvK] at h

/-- a tree where there is one: what a name holds, as it stands now -/
def peek (st : Store) : LV → Option PV
  | .pv p => some p
  | .ref n => match st[n]? with
    | some (.lst _ xs) => (unpv xs).map .lst
    | some (.dk _ kvs) => (unpvK kvs).map .dk
    | some (.dt _ kvs) => (unpvK kvs).map .dt
    | _ => none
  | .tup _ => none
  | .exn _ => none
def peeks (st : Store) : List LV → Option (List PV)
  | [] => some []
  | v :: vs => match peek st v with
    | some p => (peeks st vs).map (p :: ·)
    | none => none
def mkTup (vs : List LV) : LV := match unpv vs with
  | some ps => .pv (.tup ps)
  | none => .tup vs

/-! ### texts -/
def mkS (s : Sg) : PySem.Str := ⟨s.toArray⟩
def okS (s : Sg) : Bool := s.all fun c => decide (c < 0x110000)
section
open PySem PySem.Spec
mutual
def toD : PV → PyData
  | .non => .none
  | .bl b => .bool b
  | .int i => .int i
  | .str s => .str (mkS s)
  | .tup xs => .tuple (toDs xs)
  | .lst xs => .list (toDs xs)
  | _ => .none
def toDs : List PV → List PyData
  | [] => []
  | x :: xs => toD x :: toDs xs
end
end
/-- the text of a tree -/
def shown (p : PV) : Sg := (PySem.PyData.shown (toD p)).cps.toList
def joinS (a : Sg) : List Sg → Sg
  | [] => []
  | [x] => x
  | x :: y :: r => x ++ (a ++ joinS a (y :: r))
def strsOf : List PV → Option (List Sg)
  | [] => some []
  | .str s :: xs => (strsOf xs).map (s :: ·)
  | _ :: _ => none
/-! ### operations on trees -/
inductive BO where
  | add | sub | mul | fdiv | mod | pow
  deriving DecidableEq
inductive CO where
  | eq | ne | lt | le | gt | ge | in_ | nin
  deriving DecidableEq
inductive Ty where
  | int | bool | str | list | tuple
  deriving DecidableEq
inductive BI where
  | len | abs | int | list | sum | all | any | repr
  deriving DecidableEq
/-- methods of built-in types -/
inductive BM where
  | append | get2 | pop0 | join | extend | insert | index
  deriving DecidableEq
inductive IK where
  | val | range
  deriving DecidableEq

def mulOk (i j : Int) : Bool := (decide (-(2 ^ 64) < i) && decide (i < 2 ^ 64)) || (decide (-(2 ^ 64) < j) && decide (j < 2 ^ 64))
def powOk (i j : Int) : Bool := decide (0 ≤ j) && decide (j ≤ 1000000) && decide (i.natAbs < 2 ^ 64)
def divOk (j : Int) : Bool := decide (0 < j) && decide (j < 1073741824)
def doBin : BO → PV → PV → Option PV
  | .add, .int i, .int j => some (.int (i + j))
  | .add, .str x, .str y => if x.length + y.length ≤ line then some (.str (x ++ y)) else none
  | .add, .lst xs, .lst ys => if xs.length + ys.length ≤ line then some (.lst (xs ++ ys)) else none
  | .sub, .int i, .int j => some (.int (i - j))
  | .mul, .int i, .int j => if mulOk i j then some (.int (i * j)) else none
  | .mul, .str x, .int k => if -1073741824 < k ∧ k < 1073741824 ∧ x.length * k.toNat ≤ line ∧ x.length ≤ line then some (.str (List.replicate k.toNat x).flatten) else none
  | .fdiv, .int i, .int j => if divOk j then some (.int (i / j)) else none
  | .mod, .int i, .int j => if 0 < j then some (.int (i % j)) else none
  | .pow, .int i, .int j => if powOk i j then some (.int (i ^ j.toNat)) else none
  | _, _, _ => none
def inFlat (x : PV) (xs : List PV) : Option Bool := if flat x && xs.all flat then some (xs.any fun y => eqP y x) else none
def keyK : PV → Option Ky
  | .int i => some (.inl i)
  | .str s => some (.inr s)
  | _ => none
def keyKs : List PV → Option (List Ky)
  | [] => some []
  | x :: xs => match keyK x with
    | some k => (keyKs xs).map (k :: ·)
    | none => none
def keyT : PV → Option (List Ky)
  | .tup xs => keyKs xs
  | _ => none
def look {κ α : Type} [DecidableEq κ] (k : κ) : List (κ × α) → Option α
  | [] => none
  | (j, v) :: r => if j = k then some v else look k r
def has {κ α : Type} [DecidableEq κ] (k : κ) (kvs : List (κ × α)) : Bool := (look k kvs).isSome
def putD {κ α : Type} [DecidableEq κ] (k : κ) (v : α) (kvs : List (κ × α)) : List (κ × α) :=
  if has k kvs then kvs.map fun kv => if kv.1 = k then (kv.1, v) else kv else kvs ++ [(k, v)]
/-- one sign in a text -/
def inText (x y : Sg) : Option Bool := match x with
  | [c] => some (decide (c ∈ y))
  | _ => none
def doCmp : CO → PV → PV → Option Bool
  | .eq, a, b => opEq a b
  | .ne, a, b => (opEq a b).map (!·)
  | .lt, .int i, .int j => some (decide (i < j))
  | .le, .int i, .int j => some (decide (i ≤ j))
  | .gt, .int i, .int j => some (decide (j < i))
  | .ge, .int i, .int j => some (decide (j ≤ i))
  | .in_, x, .lst xs => inFlat x xs
  | .in_, x, .tup xs => inFlat x xs
  | .nin, x, .lst xs => (inFlat x xs).map (!·)
  | .nin, x, .tup xs => (inFlat x xs).map (!·)
  | .in_, .str x, .str y => inText x y
  | .nin, .str x, .str y => (inText x y).map (!·)
  | .in_, k, .dk kvs => (keyK k).map fun k => has k kvs
  | .nin, k, .dk kvs => (keyK k).map fun k => !has k kvs
  | .in_, k, .dt kvs => (keyT k).map fun k => has k kvs
  | .nin, k, .dt kvs => (keyT k).map fun k => !has k kvs
  | _, _, _ => none
def ixN (n : Nat) (i : Int) : Option Nat := if 0 ≤ i then (if i < n then some i.toNat else none) else if -(n : Int) ≤ i then some (i + n).toNat else none
def atI {α : Type} (xs : List α) (i : Int) : Option α := match ixN xs.length i with
  | some j => xs[j]?
  | none => none
def doIdx : PV → PV → Option PV
  | .lst xs, .int i => atI xs i
  | .tup xs, .int i => atI xs i
  | .str s, .int i => if s.length ≤ line then (atI s i).map fun c => .str [c] else none
  | .dk kvs, k => match keyK k with
    | some k => look k kvs
    | none => none
  | .dt kvs, k => match keyT k with
    | some k => look k kvs
    | none => none
  | _, _ => none
def sIx (n d : Nat) : Option Int → Nat
  | none => d
  | some v => if v < 0 then (v + (n : Int)).toNat else min v.toNat n
def cut {α : Type} (xs : List α) (lo hi : Option Int) : List α := (xs.drop (sIx xs.length 0 lo)).take (sIx xs.length xs.length hi - sIx xs.length 0 lo)
def doSlc (a : PV) (lo hi : Option Int) : Option PV := match a with
  | .lst xs => some (.lst (cut xs lo hi))
  | .tup xs => if sIx xs.length 0 lo = 0 ∧ sIx xs.length xs.length hi = xs.length then none else some (.tup (cut xs lo hi))
  | .str s => if s.length ≤ line then some (.str (cut s lo hi)) else none
  | _ => none
/-- truth of a tree -/
def tru : PV → Option Bool
  | .non => some false
  | .bl b => some b
  | .int i => some (i != 0)
  | .str s => if s.length ≤ line then some (!s.isEmpty) else none
  | .lst xs => some (!xs.isEmpty)
  | .tup xs => some (!xs.isEmpty)
  | .dk kvs => some (!kvs.isEmpty)
  | _ => none
def isTy : Ty → PV → Option Bool
  | t, .non => some false
  | t, .bl _ => some (t == .bool || t == .int)
  | t, .int _ => some (t == .int)
  | t, .str _ => some (t == .str)
  | t, .lst _ => some (t == .list)
  | t, .tup _ => some (t == .tuple)
  | _, _ => none
def isSq : PV → Bool
  | .lst _ | .tup _ => true
  | _ => false
def intsOf : List PV → Option (List Int)
  | [] => some []
  | .int i :: xs => (intsOf xs).map (i :: ·)
  | _ :: _ => none
def boolsOf : List PV → Option (List Bool)
  | [] => some []
  | .bl b :: xs => (boolsOf xs).map (b :: ·)
  | _ :: _ => none
def doRepr (p : PV) : Option PV :=
  let s := shown p
  if isSq p && eqOk p && decide (dep p ≤ maxDep) && PySem.PyData.showable (toD p) && okS s && decide (s.length ≤ line) then some (.str s) else none
def doBI : BI → List PV → Option PV
  | .len, [.lst xs] => some (.int xs.length)
  | .len, [.tup xs] => some (.int xs.length)
  | .len, [.str s] => if s.length ≤ line then some (.int s.length) else none
  | .abs, [.int i] => some (.int (if i < 0 then -i else i))
  | .int, [.int i] => some (.int i)
  | .int, [.bl b] => some (.int (if b then 1 else 0))
  | .list, [.lst xs] => some (.lst xs)
  | .list, [.tup xs] => some (.lst xs)
  | .list, [.scr ns] => some (.lst (ns.map .int))
  | .sum, [.lst xs] => (intsOf xs).map fun ns => .int ns.sum
  | .all, [.lst xs] => (boolsOf xs).map fun bs => .bl (bs.all id)
  | .any, [.lst xs] => (boolsOf xs).map fun bs => .bl (bs.any id)
  | .repr, [p] => doRepr p
  | _, _ => none
def rangeOk (i : Int) : Bool := decide (-(2 ^ 62) ≤ i) && decide (i < 2 ^ 62)
def upto (lo : Int) : Nat → List Int
  | 0 => []
  | n + 1 => lo :: upto (lo + 1) n
def downto (lo : Int) : Nat → List Int
  | 0 => []
  | n + 1 => lo :: downto (lo - 1) n
/-- what is walked -/
def items : IK → List PV → Option (List PV)
  | .val, [.lst xs] => some xs
  | .val, [.tup xs] => some xs
  | .val, [.str s] => if s.length ≤ line then some (s.map fun c => .str [c]) else none
  | .range, [.int j] => if rangeOk j then some ((upto 0 j.toNat).map .int) else none
  | .range, [.int i, .int j] => if rangeOk i && rangeOk j then some ((upto i (j - i).toNat).map .int) else none
  | .range, [.int i, .int j, .int k] => if rangeOk i && rangeOk j && decide (k = -1) then some ((downto i (i - j).toNat).map .int) else none
  | _, _ => none
end Z
end

section
namespace Z
/-- targets -/
inductive MG where
  | nm (i : Nat)
  | tp (gs : List MG)
  deriving Inhabited
mutual
inductive ME where
  | var (i : Nat)
  | lit (p : PV)
  | glb (g : Nat)
  | tup (es : List ME)
  | lst (live : Bool) (es : List ME)
  | dnew (t : Bool)
  | bin (op : BO) (a b : ME)
  | cmp (op : CO) (a b : ME)
  | boolop (isAnd : Bool) (es : List ME)
  | not (a : ME)
  | neg (a : ME)
  | ite (c : MT) (a b : ME)
  | idx (a i : ME)
  | slc (a : ME) (l : Bool) (lo : ME) (h : Bool) (hi : ME)
  | rev (a : ME)
  | isn (neg : Bool) (a : ME)
  | isi (t : Ty) (a : ME)
  | bi (b : BI) (es : List ME)
  | bm (m : BM) (r : ME) (es : List ME)
  | call (f : Nat) (es : List ME)
  | lc (live : Bool) (elt : ME) (tg : MG) (ik : IK) (src : List ME) (ifs : List MT) (own : List Nat)
  | frz (a : ME)
  | fld (C : Nat) (a : ME) (f : Nat)
  | mcall (C f : Nat) (a : ME) (es : List ME)
  | new (C f : Nat) (es : List ME)
  | xfld (i f : Nat)
  | xisi (i C : Nat)
inductive MT where
  | val (e : ME)
  | cmp (op : CO) (a b : ME)
  | isn (neg : Bool) (a : ME)
  | boolop (isAnd : Bool) (ts : List MT)
  | not (t : MT)
end
instance : Inhabited ME := ⟨.lit .non⟩
instance : Inhabited MT := ⟨.val default⟩
inductive MS where
  | ex (e : ME)
  | asg (g : MG) (e : ME)
  | asgI (a i e : ME)
  | aug (i : Nat) (op : BO) (e : ME)
  | augI (a i : ME) (op : BO) (e : ME)
  | iff (c : MT) (a b : List MS)
  | whl (c : MT) (a : List MS)
  | for_ (g : MG) (ik : IK) (src : List ME) (a : List MS)
  | ret (e : ME)
  | retN
  | fset (C : Nat) (a : ME) (f : Nat) (e : ME)
  | faug (C : Nat) (a : ME) (f : Nat) (op : BO) (e : ME)
  | raise (C : Nat) (es : List ME)
  | tryE (body : List MS) (C : Nat) (slot : Option Nat) (suite : List MS)
  | brk
  | cnt
  | pass
  deriving Inhabited

/-! ### results -/
inductive ER where
  | ok (v : LV) (st : Store)
  | ex (e : Ex) (st : Store)
inductive ERs where
  | ok (vs : List LV) (st : Store)
  | ex (e : Ex) (st : Store)
inductive ET where
  | ok (b : Bool) (st : Store)
  | ex (e : Ex) (st : Store)
inductive FR where
  | nx (φ : Slots) (st : Store)
  | rt (v : LV) (st : Store)
  | bk (φ : Slots) (st : Store)
  | ct (φ : Slots) (st : Store)
  | ex (e : Ex) (φ : Slots) (st : Store)
abbrev R := Option ER
def R.bind (x : Option ER) (f : LV → Store → Option ER) : Option ER := match x with
  | some (.ok v st) => f v st
  | some (.ex e st) => some (.ex e st)
  | none => none
def R.bs (x : Option ER) (f : LV → Store → Option ERs) : Option ERs := match x with
  | some (.ok v st) => f v st
  | some (.ex e st) => some (.ex e st)
  | none => none
def R.bt (x : Option ER) (f : LV → Store → Option ET) : Option ET := match x with
  | some (.ok v st) => f v st
  | some (.ex e st) => some (.ex e st)
  | none => none
def R.bf (φ : Slots) (x : Option ER) (f : LV → Store → Option FR) : Option FR := match x with
  | some (.ok v st) => f v st
  | some (.ex e st) => some (.ex e φ st)
  | none => none
def Rs.bind (x : Option ERs) (f : List LV → Store → Option ER) : Option ER := match x with
  | some (.ok v st) => f v st
  | some (.ex e st) => some (.ex e st)
  | none => none
def Rs.bs (x : Option ERs) (f : List LV → Store → Option ERs) : Option ERs := match x with
  | some (.ok v st) => f v st
  | some (.ex e st) => some (.ex e st)
  | none => none
def Rs.bf (φ : Slots) (x : Option ERs) (f : List LV → Store → Option FR) : Option FR := match x with
  | some (.ok v st) => f v st
  | some (.ex e st) => some (.ex e φ st)
  | none => none
def T.bind (x : Option ET) (f : Bool → Store → Option ER) : Option ER := match x with
  | some (.ok v st) => f v st
  | some (.ex e st) => some (.ex e st)
  | none => none
def T.bt (x : Option ET) (f : Bool → Store → Option ET) : Option ET := match x with
  | some (.ok v st) => f v st
  | some (.ex e st) => some (.ex e st)
  | none => none
def T.bf (φ : Slots) (x : Option ET) (f : Bool → Store → Option FR) : Option FR := match x with
  | some (.ok v st) => f v st
  | some (.ex e st) => some (.ex e φ st)
  | none => none
def optL (there : Bool) (x : LV) : Option (Option Int) := if there then (match x with
  | .pv (.int i) => some (some i)
  | _ => none) else some none
def okP (st : Store) (p : Option PV) : Option ER := match p with
  | some p => some (.ok (.pv p) st)
  | none => none

/-- from now on nothing may change it -/
def frz (v : LV) (st : Store) : Option (PV × Store) := match v with
  | .pv p => some (p, st)
  | .ref n => match st[n]? with
    | some (.lst _ xs) => match unpv xs with
      | some ps => some (.lst ps, st.set n (.lst false xs))
      | none => none
    | some (.dk _ kvs) => match unpvK kvs with
      | some ps => some (.dk ps, st.set n (.dk false kvs))
      | none => none
    | some (.dt _ kvs) => match unpvK kvs with
      | some ps => some (.dt ps, st.set n (.dt false kvs))
      | none => none
    | _ => none
  | .tup _ => none
  | .exn _ => none

/-! ### the store behind a call -/
mutual
def below (n : Nat) : LV → Bool
  | .pv _ => true
  | .ref m => decide (m < n)
  | .tup xs => belows n xs
  | .exn _ => true
def belows (n : Nat) : List LV → Bool
  | [] => true
  | x :: xs => below n x && belows n xs
end
def Cell.below (n : Nat) : Cell → Bool
  | .lst _ xs => belows n xs
  | .dk _ kvs => belows n (kvs.map (·.2))
  | .dt _ kvs => belows n (kvs.map (·.2))
  | .ins _ fs => belows n (fs.map (·.2))
/-- cells that nothing leads to any more go -/
def trunc (n : Nat) (ok : Bool) (st : Store) : Store := if ok && (st.take n).all (·.below n) then st.take n else st

/-! ### what the semantics leans on -/
structure Sem where
  cal : Nat → List LV → Store → Option ER
  glb : Nat → Option PV
  shr : Nat → Bool
  wf : Nat
  /-- how many fields have names -/
  nf : Nat
  /-- calls one less deep: an __init__'s -/
  cal1 : Nat → List LV → Store → Option ER
  /-- an error's parameters and fields; is an error of the first class one of the second -/
  xin : Nat → Option (Nat × List (Nat × Nat))
  sub : Nat → Nat → Bool
def Sem.call (S : Sem) (f : Nat) (vs : List LV) (st : Store) : Option ER :=
  match S.shr f, unpv vs with
  | false, some _ => match S.cal f vs [] with
    | some (.ok v st1) => (frz v st1).map fun p => .ok (.pv p.1) st
    | some (.ex e _) => some (.ex e st)
    | none => none
  | _, _ => match S.cal f vs st with
    | some (.ok v st1) => some (.ok v (trunc st.length (below st.length v) st1))
    | some (.ex e st1) => some (.ex e (trunc st.length true st1))
    | none => none

/-- a new instance -/
def Sem.make (S : Sem) (C f : Nat) (vs : List LV) (st : Store) : Option ER := match S.cal1 f (.ref st.length :: vs) (st ++ [.ins C []]) with
  | some (.ok (.pv .non) st1) => some (.ok (.ref st.length) (trunc (st.length + 1) true st1))
  | some (.ex e st1) => some (.ex e (trunc st.length true st1))
  | _ => none
def isIns (C nf : Nat) (x : LV) (st : Store) : Bool := match x with
  | .ref n => (match st[n]? with
    | some (.ins D fs) => D == C && fs.all fun q => decide (q.1 < nf)
    | _ => false)
  | _ => false
def putFl (f : Nat) (v : LV) : List (Nat × LV) → List (Nat × LV)
  | [] => [(f, v)]
  | (g, x) :: r => if g = f then (g, v) :: r else (g, x) :: putFl f v r
def getF (x : LV) (f : Nat) (st : Store) : Option ER := match x with
  | .ref n => match st[n]? with
    | some (.ins _ fs) => match look f fs with
      | some v => some (.ok v st)
      | none => none
    | _ => none
  | _ => none
def setFl (x : LV) (f : Nat) (v : LV) (st : Store) : Option Store := match x with
  | .ref n => match st[n]? with
    | some (.ins C fs) => if fs.length < 1000 then some (st.set n (.ins C (putFl f v fs))) else none
    | _ => none
  | _ => none
mutual
def asgG : MG → LV → Slots → Option Slots
  | .nm i, v, φ => some (φ.set i (some v))
  | .tp gs, v, φ => match v with
    | .pv (.tup xs) => asgGs gs (xs.map .pv) φ
    | .pv (.lst xs) => asgGs gs (xs.map .pv) φ
    | .tup xs => asgGs gs xs φ
    | _ => none
def asgGs : List MG → List LV → Slots → Option Slots
  | [], [], φ => some φ
  | g :: gs, v :: vs, φ => match asgG g v φ with
    | some φ => asgGs gs vs φ
    | none => none
  | _, _, _ => none
end
def wipeL (φ : Slots) : List Nat → Slots
  | [] => φ
  | v :: vs => (wipeL φ vs).set v none
def noX : Option ERs → Option (List LV × Store)
  | some (.ok vs st) => some (vs, st)
  | _ => none
def lcLoop (step : PV → Store → Option ERs) : List PV → Store → Option (List LV × Store)
  | [], st => some ([], st)
  | x :: xs, st => match noX (step x st) with
    | some (ys, st) => match lcLoop step xs st with
      | some (zs, st) => some (ys ++ zs, st)
      | none => none
    | none => none
def mkLst (live : Bool) (vs : List LV) (st : Store) : Option ER :=
  if vs.length ≤ line then
    if live then some (.ok (.ref st.length) (st ++ [.lst true vs])) else match unpv vs with
      | some ps => some (.ok (.pv (.lst ps)) st)
      | none => none
  else none
def sq (st : Store) : LV → Option (List LV)
  | .ref n => match st[n]? with
    | some (.lst _ xs) => some xs
    | _ => none
  | .pv (.lst ps) => some (ps.map .pv)
  | _ => none
/-- what a method of a built-in type may be called on -/
def bmOk (m : BM) (x : LV) (st : Store) : Bool := match m, x with
  | .append, .ref n => (match st[n]? with
    | some (.lst ..) => true
    | _ => false)
  | .pop0, .ref n | .extend, .ref n | .insert, .ref n => (match st[n]? with
    | some (.lst ..) => true
    | _ => false)
  | .index, .ref n => (match st[n]? with
    | some (.lst ..) => true
    | _ => false)
  | .index, .pv (.lst _) => true
  | .join, .pv (.str _) => true
  | .get2, .pv (.dk _) => true
  | .get2, .pv (.dt _) => true
  | .get2, .ref n => (match st[n]? with
    | some (.dk ..) => true
    | some (.dt ..) => true
    | _ => false)
  | _, _ => false
/-- v.m(..) of built-in types -/
def doBM (m : BM) (v : LV) (vs : List LV) (st : Store) : Option ER := match m, vs with
  | .append, [x] => match v with
    | .ref n => match st[n]? with
      | some (.lst true xs) => if xs.length < line then some (.ok (.pv .non) (st.set n (.lst true (xs ++ [x])))) else none
      | _ => none
    | _ => none
  | .pop0, [] => match v with
    | .ref n => match st[n]? with
      | some (.lst true xs) => match xs.getLast? with
        | some y => some (.ok y (st.set n (.lst true xs.dropLast)))
        | none => none
      | _ => none
    | _ => none
  | .extend, [x] => match v with
    | .ref n => match st[n]?, sq st x with
      | some (.lst true xs), some ys => if xs.length + ys.length ≤ line then some (.ok (.pv .non) (st.set n (.lst true (xs ++ ys)))) else none
      | _, _ => none
    | _ => none
  | .insert, [i, y] => match v, i with
    | .ref n, .pv (.int i) => match st[n]? with
      | some (.lst true xs) => if xs.length < line ∧ 0 ≤ i ∧ i < 2 ^ 63 then some (.ok (.pv .non) (st.set n (.lst true (xs.take i.toNat ++ [y] ++ xs.drop i.toNat)))) else none
      | _ => none
    | _, _ => none
  | .index, [x] => match peek st v, peek st x with
    | some (.lst xs), some x => if flat x && xs.all flat then match xs.findIdx? fun y => eqP y x with
        | some j => some (.ok (.pv (.int (j : Nat))) st)
        | none => none
      else none
    | _, _ => none
  | .join, [x] => match v, peek st x with
    | .pv (.str a), some (.lst xs) => match strsOf xs with
      | some ss => if (ss.map (·.length)).sum + ss.length * a.length ≤ line then some (.ok (.pv (.str (joinS a ss))) st) else none
      | none => none
    | _, _ => none
  | .get2, [k, d] => match peek st v, peek st k, d with
    | some (.dk kvs), some k, .pv d => match keyK k with
      | some k => some (.ok (.pv ((look k kvs).getD d)) st)
      | none => none
    | some (.dt kvs), some k, .pv d => match keyT k with
      | some k => some (.ok (.pv ((look k kvs).getD d)) st)
      | none => none
    | _, _, _ => none
  | _, _ => none
/-- v[i] -/
def getI (v i : LV) (st : Store) : Option ER := match v with
  | .ref n => match st[n]?, i with
    | some (.lst _ xs), .pv (.int i) => match atI xs i with
      | some x => some (.ok x st)
      | none => none
    | some (.dk _ kvs), .pv k => match keyK k with
      | some k => match look k kvs with
        | some x => some (.ok x st)
        | none => none
      | none => none
    | some (.dt _ kvs), .pv k => match keyT k with
      | some k => match look k kvs with
        | some x => some (.ok x st)
        | none => none
      | none => none
    | _, _ => none
  | .pv p => match i with
    | .pv i => okP st (doIdx p i)
    | _ => none
  | .tup xs => match i with
    | .pv (.int i) => match atI xs i with
      | some x => some (.ok x st)
      | none => none
    | _ => none
  | .exn _ => none
/-- v[i] = x -/
def setI (v i x : LV) (st : Store) : Option Store := match v with
  | .ref n => match st[n]?, i with
    | some (.lst true xs), .pv (.int i) => match ixN xs.length i with
      | some j => some (st.set n (.lst true (xs.set j x)))
      | none => none
    | some (.dk true kvs), .pv k => match keyK k with
      | some k => if kvs.length < line then some (st.set n (.dk true (putD k x kvs))) else none
      | none => none
    | some (.dt true kvs), .pv k => match keyT k with
      | some k => if kvs.length < line then some (st.set n (.dt true (putD k x kvs))) else none
      | none => none
    | _, _ => none
  | _ => none
def bin (op : BO) (a b : LV) (st : Store) : Option ER := match peek st a, peek st b with
  | some x, some y => okP st (doBin op x y)
  | _, _ => none
def cmp (op : CO) (a b : LV) (st : Store) : Option ER := match peek st a, peek st b with
  | some x, some y => (doCmp op x y).map fun c => .ok (.pv (.bl c)) st
  | _, _ => none
def cmpT (op : CO) (a b : LV) (st : Store) : Option ET := match peek st a, peek st b with
  | some x, some y => (doCmp op x y).map fun c => .ok c st
  | _, _ => none
/-- how long a list or tuple is whose items need not be trees -/
def lenL (a : LV) (st : Store) : Option Nat := match a with
  | .ref n => (match st[n]? with
    | some (.lst _ xs) => some xs.length
    | _ => none)
  | .tup xs => some xs.length
  | _ => none
def lenB (b : BI) (vs : List LV) (st : Store) : Option Nat := match b, vs with
  | .len, [v] => lenL v st
  | _, _ => none
def truL (a : LV) (st : Store) : Option Bool := match lenL a st with
  | some n => some (n != 0)
  | none => match peek st a with
  | some x => tru x
  | none => none
def optI : Option LV → Option (Option Int)
  | none => some none
  | some (.pv (.int i)) => some (some i)
  | _ => none

section
variable (S : Sem)
mutual
def evE : ME → Slots → Store → Option ER
  | .var i, φ, st => match φ[i]? with
    | some (some (.exn _)) => none
    | some (some v) => some (.ok v st)
    | _ => none
  | .lit p, _, st => some (.ok (.pv p) st)
  | .glb g, _, st => okP st (S.glb g)
  | .tup es, φ, st => Rs.bind (evEs es φ st) fun vs st => if vs.length ≤ line then some (.ok (mkTup vs) st) else none
  | .lst live es, φ, st => Rs.bind (evEs es φ st) fun vs st => mkLst live vs st
  | .dnew t, _, st => some (.ok (.ref st.length) (st ++ [if t then .dt true [] else .dk true []]))
  | .bin op a b, φ, st => R.bind (evE a φ st) fun x st => R.bind (evE b φ st) fun y st => bin op x y st
  | .cmp op a b, φ, st => R.bind (evE a φ st) fun x st => R.bind (evE b φ st) fun y st => cmp op x y st
  | .boolop c es, φ, st => evB c es φ st
  | .not a, φ, st => R.bind (evE a φ st) fun x st => match truL x st with
    | some b => some (.ok (.pv (.bl (!b))) st)
    | none => none
  | .neg a, φ, st => R.bind (evE a φ st) fun x st => match x with
    | .pv (.int i) => some (.ok (.pv (.int (-i))) st)
    | _ => none
  | .ite c a b, φ, st => T.bind (evT c φ st) fun d st => if d then evE a φ st else evE b φ st
  | .idx a i, φ, st => R.bind (evE a φ st) fun x st => R.bind (evE i φ st) fun y st => getI x y st
  | .slc a l lo h hi, φ, st => R.bind (evE a φ st) fun x st => R.bind (if l then evE lo φ st else some (.ok (.pv .non) st)) fun lv st => match optL l lv with
      | some lo => R.bind (if h then evE hi φ st else some (.ok (.pv .non) st)) fun hv st => match optL h hv, peek st x with
        | some hi, some x => okP st (doSlc x lo hi)
        | _, _ => none
      | none => none
  | .rev a, φ, st => R.bind (evE a φ st) fun x st => match x with
    | .pv (.str s) => if s.length ≤ 2 then some (.ok (.pv (.str s.reverse)) st) else none
    | _ => none
  | .isn neg a, φ, st => R.bind (evE a φ st) fun x st => match x with
    | .pv .non => some (.ok (.pv (.bl (!neg))) st)
    | _ => some (.ok (.pv (.bl neg)) st)
  | .isi t a, φ, st => R.bind (evE a φ st) fun x st => match peek st x with
    | some x => (isTy t x).map fun b => .ok (.pv (.bl b)) st
    | none => none
  | .bi b es, φ, st => Rs.bind (evEs es φ st) fun vs st => match lenB b vs st with
    | some n => some (.ok (.pv (.int (n : Int))) st)
    | none => match peeks st vs with
      | some ps => okP st (doBI b ps)
      | none => none
  | .bm m r es, φ, st => R.bind (evE r φ st) fun x st => if bmOk m x st then Rs.bind (evEs es φ st) fun vs st => doBM m x vs st else none
  | .call f es, φ, st => Rs.bind (evEs es φ st) fun vs st => S.call f vs st
  | .lc live elt tg ik src ifs own, φ, st => Rs.bind (evEs src φ st) fun vs st => match unpv vs with
    | some ps => match items ik ps with
      | some xs => match lcLoop (fun x st => match asgG tg (.pv x) (wipeL φ own) with
          | some φ1 => evIf ifs φ1 st fun st => R.bs (evE elt φ1 st) fun y st => some (.ok [y] st)
          | none => none) xs st with
        | some (vs, st) => mkLst live vs st
        | none => none
      | none => none
    | none => none
  | .frz a, φ, st => R.bind (evE a φ st) fun x st => (frz x st).map fun p => .ok (.pv p.1) p.2
  | .fld C a f, φ, st => R.bind (evE a φ st) fun x st => if isIns C S.nf x st then getF x f st else none
  | .mcall C f a es, φ, st => R.bind (evE a φ st) fun x st => if isIns C S.nf x st then Rs.bind (evEs es φ st) fun vs st => S.call f (x :: vs) st else none
  | .new C f es, φ, st => Rs.bind (evEs es φ st) fun vs st => S.make C f vs st
  | .xfld i f, φ, st => match φ[i]? with
    | some (some (.exn e)) => match S.xin e.cls with
      | some nf => if nf.2.any fun q => q.1 == f then okP st (look f e.fs) else none
      | none => none
    | _ => none
  | .xisi i C, φ, st => match φ[i]? with
    | some (some (.exn e)) => match S.xin e.cls with
      | some _ => some (.ok (.pv (.bl (S.sub e.cls C))) st)
      | none => none
    | _ => none
def evEs : List ME → Slots → Store → Option ERs
  | [], _, st => some (.ok [] st)
  | e :: es, φ, st => R.bs (evE e φ st) fun v st => Rs.bs (evEs es φ st) fun vs st => some (.ok (v :: vs) st)
def evT : MT → Slots → Store → Option ET
  | .boolop c es, φ, st => evBT c es φ st
  | .not a, φ, st => T.bt (evT a φ st) fun b st => some (.ok (!b) st)
  | .val e, φ, st => R.bt (evE e φ st) fun v st => (truL v st).map fun b => .ok b st
  | .cmp op a b, φ, st => R.bt (evE a φ st) fun x st => R.bt (evE b φ st) fun y st => cmpT op x y st
  | .isn neg a, φ, st => R.bt (evE a φ st) fun x st => match x with
    | .pv .non => some (.ok (!neg) st)
    | _ => some (.ok neg st)
def evB (c : Bool) : List ME → Slots → Store → Option ER
  | [], _, _ => none
  | [e], φ, st => evE e φ st
  | e :: es, φ, st => R.bind (evE e φ st) fun v st => match truL v st with
    | some b => if b == c then evB c es φ st else some (.ok v st)
    | none => none
def evBT (c : Bool) : List MT → Slots → Store → Option ET
  | [], _, _ => none
  | [e], φ, st => evT e φ st
  | e :: es, φ, st => T.bt (evT e φ st) fun b st => if b == c then evBT c es φ st else some (.ok b st)
def evIf : List MT → Slots → Store → (Store → Option ERs) → Option ERs
  | [], _, st, k => k st
  | c :: _, φ, st, k => match evT c φ st with
    | some (.ok true st) => k st
    | some (.ok false st) => some (.ok [] st)
    | some (.ex e st) => some (.ex e st)
    | none => none
end
end
end Z
end

section
namespace Z
example (S : Sem) (p φ st) : evE S (.lit p) φ st = some (.ok (.pv p) st) := rfl
example (S : Sem) (a b φ st) : evE S (.bin .add a b) φ st = R.bind (evE S a φ st) fun x st => R.bind (evE S b φ st) fun y st => bin .add x y st := rfl

def doAug (op : BO) (p q : PV) : Option PV := match op, p with
  | .pow, _ => none
  | .mul, .str _ => none
  | _, .lst _ => none
  | _, _ => doBin op p q
/-- x op= y: a list is made longer in place -/
def augOp (op : BO) (x y : LV) (st : Store) : Option ER := match x with
  | .ref n => match op, st[n]?, sq st y with
    | .add, some (.lst true xs), some ys => if xs.length + ys.length ≤ line then some (.ok (.ref n) (st.set n (.lst true (xs ++ ys)))) else none
    | _, _, _ => none
  | .pv p => match peek st y with
    | some q => okP st (doAug op p q)
    | none => none
  | .tup _ => none
  | .exn _ => none
/-- the fields that an __init__ leaves, the last one ahead -/
def extP (ps : List PV) : List (Nat × PV) → List (Nat × Nat) → Option (List (Nat × PV))
  | acc, [] => some acc
  | acc, (f, i) :: r => match ps[i]? with
    | some p => extP ps ((f, p) :: acc) r
    | none => none
/-- behind an except suite its name is gone -/
def unslot (i : Option Nat) : Option FR → Option FR
  | some (.nx φ st) => some (.nx (match i with
    | some i => φ.set i none
    | none => φ) st)
  | some (.bk φ st) => some (.bk (match i with
    | some i => φ.set i none
    | none => φ) st)
  | some (.ct φ st) => some (.ct (match i with
    | some i => φ.set i none
    | none => φ) st)
  | some (.rt v st) => some (.rt v st)
  | _ => none
def forLoop (step : PV → Slots → Store → Option FR) : List PV → Slots → Store → Option FR
  | [], φ, st => some (.nx φ st)
  | x :: xs, φ, st => match step x φ st with
    | some (.nx φ st) => forLoop step xs φ st
    | some (.ct φ st) => forLoop step xs φ st
    | some (.bk φ st) => some (.nx φ st)
    | r => r
def whLoop (test : Slots → Store → Option ET) (body : Slots → Store → Option FR) : Nat → Slots → Store → Option FR
  | 0, _, _ => none
  | n + 1, φ, st => T.bf φ (test φ st) fun b st => if b then match body φ st with
      | some (.nx φ st) => whLoop test body n φ st
      | some (.ct φ st) => whLoop test body n φ st
      | some (.bk φ st) => some (.nx φ st)
      | r => r
    else some (.nx φ st)
section
variable (S : Sem)
mutual
def exS : MS → Slots → Store → Option FR
  | .ex e, φ, st => R.bf φ (evE S e φ st) fun _ st => some (.nx φ st)
  | .asg g e, φ, st => R.bf φ (evE S e φ st) fun v st => (asgG g v φ).map fun φ => .nx φ st
  | .asgI a i e, φ, st => R.bf φ (evE S e φ st) fun v st => R.bf φ (evE S a φ st) fun x st => R.bf φ (evE S i φ st) fun y st => (setI x y v st).map fun st => .nx φ st
  | .aug i op e, φ, st => match φ[i]? with
    | some (some x) => R.bf φ (evE S e φ st) fun y st => R.bf φ (augOp op x y st) fun z st => some (.nx (φ.set i (some z)) st)
    | _ => none
  | .augI a i op e, φ, st => R.bf φ (evE S a φ st) fun x st => R.bf φ (evE S i φ st) fun y st => R.bf φ (getI x y st) fun v st => R.bf φ (evE S e φ st) fun w st =>
      R.bf φ (augOp op v w st) fun z st => (setI x y z st).map fun st => .nx φ st
  | .iff c a b, φ, st => T.bf φ (evT S c φ st) fun d st => if d then exSs a φ st else exSs b φ st
  | .whl c a, φ, st => whLoop (evT S c) (exSs a) S.wf φ st
  | .for_ g ik src a, φ, st => Rs.bf φ (evEs S src φ st) fun vs st => match unpv vs with
    | some ps => match items ik ps with
      | some xs => forLoop (fun x φ st => match asgG g (.pv x) φ with
          | some φ => exSs a φ st
          | none => none) xs φ st
      | none => none
    | none => none
  | .ret e, φ, st => R.bf φ (evE S e φ st) fun v st => some (.rt v st)
  | .retN, _, st => some (.rt (.pv .non) st)
  | .fset C a f e, φ, st => R.bf φ (evE S e φ st) fun v st => R.bf φ (evE S a φ st) fun x st => if isIns C S.nf x st then (setFl x f v st).map fun st => .nx φ st else none
  | .faug C a f op e, φ, st => R.bf φ (evE S a φ st) fun x st => if isIns C S.nf x st then R.bf φ (getF x f st) fun v st => R.bf φ (evE S e φ st) fun w st =>
      R.bf φ (augOp op v w st) fun z st => if isIns C S.nf x st then (setFl x f z st).map fun st => .nx φ st else none
    else none
  | .raise C es, φ, st => Rs.bf φ (evEs S es φ st) fun vs st => match S.xin C, unpv vs with
    | some (n, fl), some ps => if ps.length = n then (extP ps [] fl).map fun fs => .ex ⟨C, fs⟩ φ st else none
    | _, _ => none
  | .tryE body C slot suite, φ, st => match exSs body φ st with
    | some (.ex e φ1 st1) => if (S.xin e.cls).isNone then none else if S.sub e.cls C then unslot slot (exSs suite (match slot with
        | some i => φ1.set i (some (.exn e))
        | none => φ1) st1) else some (.ex e φ1 st1)
    | r => r
  | .brk, φ, st => some (.bk φ st)
  | .cnt, φ, st => some (.ct φ st)
  | .pass, φ, st => some (.nx φ st)
def exSs : List MS → Slots → Store → Option FR
  | [], φ, st => some (.nx φ st)
  | s :: ss, φ, st => match exS s φ st with
    | some (.nx φ st) => exSs ss φ st
    | r => r
end
end
/-- a def: how many parameters, how many names, its body -/
structure MD where
  ar : Nat
  nn : Nat
  body : List MS
  deriving Inhabited
def endR : Option FR → Option ER
  | some (.nx _ st) => some (.ok (.pv .non) st)
  | some (.rt v st) => some (.ok v st)
  | some (.ex e _ st) => some (.ex e st)
  | _ => none
def MD.run (d : MD) (S : Sem) (vs : List LV) (st : Store) : Option ER :=
  if vs.length = d.ar then endR (exSs S d.body (vs.map some ++ List.replicate (d.nn - d.ar) none) st) else none
structure Prog where
  defs : List MD
  glb : Nat → Option PV
  shr : Nat → Bool
  wf : Nat
  nf : Nat := 0
  xin : Nat → Option (Nat × List (Nat × Nat)) := fun _ => none
  sub : Nat → Nat → Bool := fun _ _ => false
abbrev Cal := Nat → List LV → Store → Option ER
def Prog.runBy (P : Prog) (c c1 : Cal) : Cal := fun f vs st => match P.defs[f]? with
  | some d => d.run ⟨c, P.glb, P.shr, P.wf, P.nf, c1, P.xin, P.sub⟩ vs st
  | none => none
/-- n calls deep, n - 1 -/
def Prog.cal2 (P : Prog) : Nat → Cal × Cal
  | 0 => (fun _ _ _ => none, fun _ _ _ => none)
  | n + 1 => (P.runBy (P.cal2 n).1 (P.cal2 n).2, (P.cal2 n).1)
def Prog.cal (P : Prog) (n : Nat) : Cal := (P.cal2 n).1
def Prog.sem (P : Prog) (n : Nat) : Sem := ⟨(P.cal2 n).1, P.glb, P.shr, P.wf, P.nf, (P.cal2 n).2, P.xin, P.sub⟩
end Z
end

section
/-! ZD: how trees and cells lie in the abstract heap of the layer. -/
namespace Z
open PySem L2
def kyS : Ky → Key
  | .inl i => .inl i
  | .inr s => .inr (mkS s)
def okK : Ky → Bool
  | .inl _ => true
  | .inr s => okS s
theorem mkS_inj {a b : Sg} (h : mkS a = mkS b) : a = b := by
  have h1 : a.toArray = b.toArray := by simpa [mkS] using h
  simpa using congrArg Array.toList h1
theorem mkS_len (a : Sg) : (mkS a).length = a.length := by simp [mkS, Str.length]
theorem mkS_cps (a : Sg) : (mkS a).cps.toList = a := by simp [mkS]
theorem kyS_inj {a b : Ky} (h : kyS a = kyS b) : a = b := by
  cases a <;> cases b <;> simp only [kyS, Sum.inl.injEq, Sum.inr.injEq, reduceCtorEq] at h
  · rw [h]
  · rw [mkS_inj h]
theorem kySs_inj : ∀ {a b : List Ky}, a.map kyS = b.map kyS → a = b
  | [], [], _ => rfl
  | [], _ :: _, h => by simp at h
  | _ :: _, [], h => by simp at h
  | x :: a, y :: b, h => by
    simp only [List.map_cons, List.cons.injEq] at h
    rw [kyS_inj h.1, kySs_inj h.2]

section
variable (K : PySem.W.Frag) (F : Hp)
mutual
/-- the tree p lies at v; all its objects stand in F -/
def RP : PV → V → Prop
  | .non, v => v = .non
  | .bl b, v => v = .bl b
  | .int i, v => v = .int i
  | .str s, v => v = .str (mkS s) ∧ okS s = true
  | .tup xs, v => ∃ a vs, v = .ref a ∧ F a = some (.tup vs) ∧ RPs xs vs
  | .lst xs, v => ∃ a vs, v = .ref a ∧ F a = some (.lst vs) ∧ RPs xs vs
  | .dk kvs, v => ∃ a ks, v = .ref a ∧ F a = some (.dK ks) ∧ RPk kvs ks
  | .dt kvs, v => ∃ a ks, v = .ref a ∧ F a = some (.dT ks) ∧ RPt kvs ks
  | .scr ns, v => ∃ a, v = .ref a ∧ SqL K F a (ns.map V.int)
def RPs : List PV → List V → Prop
  | [], vs => vs = []
  | x :: xs, vs => ∃ v r, vs = v :: r ∧ RP x v ∧ RPs xs r
def RPk : List (Ky × PV) → List (Key × V) → Prop
  | [], ks => ks = []
  | (k, p) :: xs, ks => ∃ v r, ks = (kyS k, v) :: r ∧ okK k = true ∧ RP p v ∧ RPk xs r
def RPt : List (List Ky × PV) → List (List Key × V) → Prop
  | [], ks => ks = []
  | (k, p) :: xs, ks => ∃ v r, ks = (k.map kyS, v) :: r ∧ k.all okK = true ∧ RP p v ∧ RPt xs r
end
variable (ρ : List Addr)
mutual
def RL : LV → V → Prop
  | .pv p, v => RP K F p v
  | .ref n, v => ∃ a, v = .ref a ∧ ρ[n]? = some a
  | .tup xs, v => ∃ a vs, v = .ref a ∧ F a = some (.tup vs) ∧ RLs xs vs
  | .exn _, _ => False
def RLs : List LV → List V → Prop
  | [], vs => vs = []
  | x :: xs, vs => ∃ v r, vs = v :: r ∧ RL x v ∧ RLs xs r
end
def RLk : List (Ky × LV) → List (Key × V) → Prop
  | [], ks => ks = []
  | (k, p) :: xs, ks => ∃ v r, ks = (kyS k, v) :: r ∧ okK k = true ∧ RL K F ρ p v ∧ RLk xs r
def RLt : List (List Ky × LV) → List (List Key × V) → Prop
  | [], ks => ks = []
  | (k, p) :: xs, ks => ∃ v r, ks = (k.map kyS, v) :: r ∧ k.all okK = true ∧ RL K F ρ p v ∧ RLt xs r
end

/-- F stands in F' -/
abbrev Sub (F F' : Hp) : Prop := ∀ b o, F b = some o → F' b = some o
theorem Sub.refl (F : Hp) : Sub F F := fun _ _ h => h
theorem Sub.trans {F F' F'' : Hp} (a : Sub F F') (b : Sub F' F'') : Sub F F'' := fun c o h => b c o (a c o h)
theorem Sub.sqT {K : PySem.W.Frag} {F F' : Hp} {a : Addr} {xs : List V} (e : Sub F F') (h : SqT K F a xs) : SqT K F' a xs := by
  rcases h with (h | ⟨o, h⟩) | h
  · exact .inl (.inl (e _ _ h))
  · exact .inl (.inr ⟨o, e _ _ h⟩)
  · exact .inr h
theorem Sub.sqL {K : PySem.W.Frag} {F F' : Hp} {a : Addr} {xs : List V} (e : Sub F F') (h : SqL K F a xs) : SqL K F' a xs := by
  rcases h with (h | ⟨o, h⟩) | h
  · exact .inl (.inl (e _ _ h))
  · exact .inl (.inr ⟨o, e _ _ h⟩)
  · exact .inr h
section
variable {K : PySem.W.Frag} {F F' : Hp}
mutual
theorem RP.mono (e : Sub F F') : ∀ (p : PV) (v : V), RP K F p v → RP K F' p v
  | .non, v, h => by simpa only [RP] using h
  | .bl b, v, h => by simpa only [RP] using h
  | .int i, v, h => by simpa only [RP] using h
  | .str s, v, h => by simpa only [RP] using h
  | .tup xs, v, h => by
    simp only [RP] at h ⊢
    obtain ⟨a, vs, e1, e2, e3⟩ := h
    exact ⟨a, vs, e1, e _ _ e2, RPs.mono e xs vs e3⟩
  | .lst xs, v, h => by
    simp only [RP] at h ⊢
    obtain ⟨a, vs, e1, e2, e3⟩ := h
    exact ⟨a, vs, e1, e _ _ e2, RPs.mono e xs vs e3⟩
  | .dk kvs, v, h => by
    simp only [RP] at h ⊢
    obtain ⟨a, vs, e1, e2, e3⟩ := h
    exact ⟨a, vs, e1, e _ _ e2, RPk.mono e kvs vs e3⟩
  | .dt kvs, v, h => by
    simp only [RP] at h ⊢
    obtain ⟨a, vs, e1, e2, e3⟩ := h
    exact ⟨a, vs, e1, e _ _ e2, RPt.mono e kvs vs e3⟩
  | .scr ns, v, h => by
    simp only [RP] at h ⊢
    obtain ⟨a, e1, e2⟩ := h
    exact ⟨a, e1, e.sqL e2⟩
theorem RPs.mono (e : Sub F F') : ∀ (ps : List PV) (vs : List V), RPs K F ps vs → RPs K F' ps vs
  | [], vs, h => by simpa only [RPs] using h
  | x :: xs, vs, h => by
    simp only [RPs] at h ⊢
    obtain ⟨v, r, e1, e2, e3⟩ := h
    exact ⟨v, r, e1, RP.mono e x v e2, RPs.mono e xs r e3⟩
theorem RPk.mono (e : Sub F F') : ∀ (ps : List (Ky × PV)) (vs : List (Key × V)), RPk K F ps vs → RPk K F' ps vs
  | [], vs, h => by simpa only [RPk] using h
  | (k, x) :: xs, vs, h => by
    simp only [RPk] at h ⊢
    obtain ⟨v, r, e1, e2, e3, e4⟩ := h
    exact ⟨v, r, e1, e2, RP.mono e x v e3, RPk.mono e xs r e4⟩
theorem RPt.mono (e : Sub F F') : ∀ (ps : List (List Ky × PV)) (vs : List (List Key × V)), RPt K F ps vs → RPt K F' ps vs
  | [], vs, h => by simpa only [RPt] using h
  | (k, x) :: xs, vs, h => by
    simp only [RPt] at h ⊢
    obtain ⟨v, r, e1, e2, e3, e4⟩ := h
    exact ⟨v, r, e1, e2, RP.mono e x v e3, RPt.mono e xs r e4⟩
end
/-- cells keep their numbers -/
abbrev Pre (ρ ρ' : List Addr) : Prop := ∀ (n : Nat) (a : Addr), ρ[n]? = some a → ρ'[n]? = some a
theorem Pre.refl (ρ : List Addr) : Pre ρ ρ := fun _ _ h => h
theorem Pre.trans {a b c : List Addr} (x : Pre a b) (y : Pre b c) : Pre a c := fun n k h => y n k (x n k h)
theorem Pre.snoc (ρ : List Addr) (a : Addr) : Pre ρ (ρ ++ [a]) := fun n b h => by
  rw [List.getElem?_append_left (List.getElem?_eq_some_iff.mp h).1]
  exact h
variable {ρ ρ' : List Addr}
mutual
theorem RL.mono (e : Sub F F') (q : Pre ρ ρ') : ∀ (p : LV) (v : V), RL K F ρ p v → RL K F' ρ' p v
  | .pv p, v, h => by
    simp only [RL] at h ⊢
    exact RP.mono e p v h
  | .ref n, v, h => by
    simp only [RL] at h ⊢
    obtain ⟨a, e1, e2⟩ := h
    exact ⟨a, e1, q _ _ e2⟩
  | .tup xs, v, h => by
    simp only [RL] at h ⊢
    obtain ⟨a, vs, e1, e2, e3⟩ := h
    exact ⟨a, vs, e1, e _ _ e2, RLs.mono e q xs vs e3⟩
  | .exn _, _, h => by simp only [RL] at h
theorem RLs.mono (e : Sub F F') (q : Pre ρ ρ') : ∀ (ps : List LV) (vs : List V), RLs K F ρ ps vs → RLs K F' ρ' ps vs
  | [], vs, h => by simpa only [RLs] using h
  | x :: xs, vs, h => by
    simp only [RLs] at h ⊢
    obtain ⟨v, r, e1, e2, e3⟩ := h
    exact ⟨v, r, e1, RL.mono e q x v e2, RLs.mono e q xs r e3⟩
end
theorem RLk.mono (e : Sub F F') (q : Pre ρ ρ') : ∀ {ps : List (Ky × LV)} {vs : List (Key × V)}, RLk K F ρ ps vs → RLk K F' ρ' ps vs
  | [], vs, h => by simpa only [RLk] using h
  | (k, x) :: xs, vs, h => by
    simp only [RLk] at h ⊢
    obtain ⟨v, r, e1, e2, e3, e4⟩ := h
    exact ⟨v, r, e1, e2, RL.mono e q x v e3, RLk.mono e q e4⟩
theorem RLt.mono (e : Sub F F') (q : Pre ρ ρ') : ∀ {ps : List (List Ky × LV)} {vs : List (List Key × V)}, RLt K F ρ ps vs → RLt K F' ρ' ps vs
  | [], vs, h => by simpa only [RLt] using h
  | (k, x) :: xs, vs, h => by
    simp only [RLt] at h ⊢
    obtain ⟨v, r, e1, e2, e3, e4⟩ := h
    exact ⟨v, r, e1, e2, RL.mono e q x v e3, RLt.mono e q e4⟩

/-! ### lists of trees -/
theorem RPs.length : ∀ {xs : List PV} {vs : List V}, RPs K F xs vs → xs.length = vs.length
  | [], vs, h => by simp only [RPs] at h; subst h; rfl
  | x :: xs, vs, h => by
    simp only [RPs] at h
    obtain ⟨v, r, e1, _, e3⟩ := h
    subst e1
    rw [List.length_cons, List.length_cons, RPs.length e3]
theorem RPs.get : ∀ {xs : List PV} {vs : List V} {i : Nat} {x : PV}, RPs K F xs vs → xs[i]? = some x → ∃ v, vs[i]? = some v ∧ RP K F x v
  | [], _, _, _, _, e => by simp at e
  | x :: xs, vs, 0, y, h, e => by
    simp only [RPs] at h
    obtain ⟨v, r, e1, e2, e3⟩ := h
    subst e1
    simp only [List.getElem?_cons_zero, Option.some.injEq] at e
    subst e
    exact ⟨v, rfl, e2⟩
  | x :: xs, vs, i + 1, y, h, e => by
    simp only [RPs] at h
    obtain ⟨v, r, e1, e2, e3⟩ := h
    subst e1
    rw [List.getElem?_cons_succ] at e
    obtain ⟨w, h1, h2⟩ := RPs.get e3 e
    exact ⟨w, by simpa using h1, h2⟩
theorem RPs.append : ∀ {xs ys : List PV} {vs ws : List V}, RPs K F xs vs → RPs K F ys ws → RPs K F (xs ++ ys) (vs ++ ws)
  | [], _, vs, _, h, h' => by simp only [RPs] at h; subst h; exact h'
  | x :: xs, ys, vs, ws, h, h' => by
    simp only [RPs] at h
    obtain ⟨v, r, e1, e2, e3⟩ := h
    subst e1
    show RPs K F (x :: (xs ++ ys)) (v :: (r ++ ws))
    simp only [RPs]
    exact ⟨v, r ++ ws, rfl, e2, RPs.append e3 h'⟩
theorem RPs.drop : ∀ {xs : List PV} {vs : List V} (n : Nat), RPs K F xs vs → RPs K F (xs.drop n) (vs.drop n)
  | _, _, 0, h => h
  | [], vs, n + 1, h => by simp only [RPs] at h; subst h; simp [RPs]
  | x :: xs, vs, n + 1, h => by
    simp only [RPs] at h
    obtain ⟨v, r, e1, e2, e3⟩ := h
    subst e1
    simpa using RPs.drop n e3
theorem RPs.take : ∀ {xs : List PV} {vs : List V} (n : Nat), RPs K F xs vs → RPs K F (xs.take n) (vs.take n)
  | xs, _, 0, h => by simp [RPs]
  | [], vs, n + 1, h => by simp only [RPs] at h; subst h; simp [RPs]
  | x :: xs, vs, n + 1, h => by
    simp only [RPs] at h
    obtain ⟨v, r, e1, e2, e3⟩ := h
    subst e1
    simp only [List.take_succ_cons, RPs]
    exact ⟨v, _, rfl, e2, RPs.take n e3⟩
theorem RLs.length : ∀ {xs : List LV} {vs : List V}, RLs K F ρ xs vs → xs.length = vs.length
  | [], vs, h => by simp only [RLs] at h; subst h; rfl
  | x :: xs, vs, h => by
    simp only [RLs] at h
    obtain ⟨v, r, e1, _, e3⟩ := h
    subst e1
    rw [List.length_cons, List.length_cons, RLs.length e3]
theorem RLs.get : ∀ {xs : List LV} {vs : List V} {i : Nat} {x : LV}, RLs K F ρ xs vs → xs[i]? = some x → ∃ v, vs[i]? = some v ∧ RL K F ρ x v
  | [], _, _, _, _, e => by simp at e
  | x :: xs, vs, 0, y, h, e => by
    simp only [RLs] at h
    obtain ⟨v, r, e1, e2, e3⟩ := h
    subst e1
    simp only [List.getElem?_cons_zero, Option.some.injEq] at e
    subst e
    exact ⟨v, rfl, e2⟩
  | x :: xs, vs, i + 1, y, h, e => by
    simp only [RLs] at h
    obtain ⟨v, r, e1, e2, e3⟩ := h
    subst e1
    rw [List.getElem?_cons_succ] at e
    obtain ⟨w, h1, h2⟩ := RLs.get e3 e
    exact ⟨w, by simpa using h1, h2⟩
theorem RLs.append : ∀ {xs ys : List LV} {vs ws : List V}, RLs K F ρ xs vs → RLs K F ρ ys ws → RLs K F ρ (xs ++ ys) (vs ++ ws)
  | [], _, vs, _, h, h' => by simp only [RLs] at h; subst h; exact h'
  | x :: xs, ys, vs, ws, h, h' => by
    simp only [RLs] at h
    obtain ⟨v, r, e1, e2, e3⟩ := h
    subst e1
    show RLs K F ρ (x :: (xs ++ ys)) (v :: (r ++ ws))
    simp only [RLs]
    exact ⟨v, r ++ ws, rfl, e2, RLs.append e3 h'⟩
theorem RLs.set {x : LV} {v : V} (h : RL K F ρ x v) : ∀ {xs : List LV} {vs : List V} (i : Nat), RLs K F ρ xs vs → RLs K F ρ (xs.set i x) (vs.set i v)
  | [], vs, i, q => by simp only [RLs] at q; subst q; simp [RLs]
  | y :: ys, vs, 0, q => by
    simp only [RLs] at q
    obtain ⟨w, r, e1, e2, e3⟩ := q
    subst e1
    simp only [List.set_cons_zero, RLs]
    exact ⟨v, r, rfl, h, e3⟩
  | y :: ys, vs, i + 1, q => by
    simp only [RLs] at q
    obtain ⟨w, r, e1, e2, e3⟩ := q
    subst e1
    simp only [List.set_cons_succ, RLs]
    exact ⟨w, _, rfl, e2, RLs.set h i e3⟩
theorem RLs_pv : ∀ {xs : List PV} {vs : List V}, RLs K F ρ (xs.map .pv) vs ↔ RPs K F xs vs
  | [], vs => by simp [RLs, RPs]
  | x :: xs, vs => by
    simp only [List.map_cons, RLs, RPs, RL]
    constructor
    · rintro ⟨v, r, e1, e2, e3⟩
      exact ⟨v, r, e1, e2, RLs_pv.mp e3⟩
    · rintro ⟨v, r, e1, e2, e3⟩
      exact ⟨v, r, e1, e2, RLs_pv.mpr e3⟩
theorem RLk_pv : ∀ {xs : List (Ky × PV)} {vs : List (Key × V)}, RLk K F ρ (xs.map fun kv => (kv.1, LV.pv kv.2)) vs ↔ RPk K F xs vs
  | [], vs => by simp [RLk, RPk]
  | (k, x) :: xs, vs => by
    simp only [List.map_cons, RLk, RPk, RL]
    constructor
    · rintro ⟨v, r, e1, e2, e3, e4⟩
      exact ⟨v, r, e1, e2, e3, RLk_pv.mp e4⟩
    · rintro ⟨v, r, e1, e2, e3, e4⟩
      exact ⟨v, r, e1, e2, e3, RLk_pv.mpr e4⟩
theorem RLt_pv : ∀ {xs : List (List Ky × PV)} {vs : List (List Key × V)}, RLt K F ρ (xs.map fun kv => (kv.1, LV.pv kv.2)) vs ↔ RPt K F xs vs
  | [], vs => by simp [RLt, RPt]
  | (k, x) :: xs, vs => by
    simp only [List.map_cons, RLt, RPt, RL]
    constructor
    · rintro ⟨v, r, e1, e2, e3, e4⟩
      exact ⟨v, r, e1, e2, e3, RLt_pv.mp e4⟩
    · rintro ⟨v, r, e1, e2, e3, e4⟩
      exact ⟨v, r, e1, e2, e3, RLt_pv.mpr e4⟩
theorem RL_mkTup {vs : List LV} {ws : List V} {a : Addr} (h : RLs K F ρ vs ws) (ha : F a = some (.tup ws)) : RL K F ρ (mkTup vs) (.ref a) := by
  unfold mkTup
  cases e : unpv vs with
  | none =>
    simp only [RL]
    exact ⟨a, ws, rfl, ha, h⟩
  | some ps =>
    simp only [RL, RP]
    rw [unpv_eq e] at h
    exact ⟨a, ws, rfl, ha, RLs_pv.mp h⟩
end

/-! ### the heap -/
section
variable (K : PySem.W.Frag) (F : Hp) (ρ : List Addr) (cad : Nat → Addr) (fnm : Nat → Str) (H : Hp)
def CR (a : Addr) : Cell → Prop
  | .lst live xs => ∃ vs, H a = some (.lst vs) ∧ RLs K F ρ xs vs ∧ (live = true → F a = none) ∧ (live = false → F a = some (.lst vs))
  | .dk live kvs => ∃ ks, H a = some (.dK ks) ∧ RLk K F ρ kvs ks ∧ (live = true → F a = none) ∧ (live = false → F a = some (.dK ks))
  | .dt live kvs => ∃ ks, H a = some (.dT ks) ∧ RLt K F ρ kvs ks ∧ (live = true → F a = none) ∧ (live = false → F a = some (.dT ks))
  | .ins C fs => ∃ dx vs, H a = some (.ins (cad C) dx ((fs.map fun f => fnm f.1).zip vs)) ∧ RLs K F ρ (fs.map (·.2)) vs ∧ F a = none
structure HR (st : Store) : Prop where
  sub : Sub F H
  len : ρ.length = st.length
  nd : ρ.Nodup
  cell : ∀ (n : Nat) (a : Addr) (c : Cell), ρ[n]? = some a → st[n]? = some c → CR K F ρ cad fnm H a c
end
/-- what may have come to pass -/
structure G (F : Hp) (ρ : List Addr) (H : Hp) (F' : Hp) (ρ' : List Addr) (H' : Hp) : Prop where
  sub : Sub F F'
  pre : Pre ρ ρ'
  keep : ∀ b o, H b = some o → b ∉ ρ → H' b = some o
  new : ∀ b o, F' b = some o → F b = some o ∨ H b = none ∨ b ∈ ρ
  newρ : ∀ b, b ∈ ρ' → b ∈ ρ ∨ H b = none
  hold : ∀ b, H b ≠ none → H' b ≠ none
theorem G.refl (F : Hp) (ρ : List Addr) (H : Hp) : G F ρ H F ρ H := ⟨Sub.refl F, Pre.refl ρ, fun _ _ h _ => h, fun _ _ h => .inl h, fun _ h => .inl h, fun _ h => h⟩
theorem G.trans {F F' F'' H H' H'' : Hp} {ρ ρ' ρ'' : List Addr} (a : G F ρ H F' ρ' H') (b : G F' ρ' H' F'' ρ'' H'') : G F ρ H F'' ρ'' H'' where
  sub := a.sub.trans b.sub
  pre := a.pre.trans b.pre
  keep := fun c o h n => b.keep c o (a.keep c o h n) fun m => by
    rcases a.newρ c m with z | z
    · exact n z
    · rw [h] at z; cases z
  new := fun c o h => by
    rcases b.new c o h with z | z | z
    · exact a.new c o z
    · cases q : H c with
      | none => exact .inr (.inl rfl)
      | some u => exact absurd z (a.hold c (by simp [q]))
    · rcases a.newρ c z with y | y
      · exact .inr (.inr y)
      · exact .inr (.inl y)
  newρ := fun c h => by
    rcases b.newρ c h with z | z
    · exact a.newρ c z
    · cases q : H c with
      | none => exact .inr rfl
      | some u => exact absurd z (a.hold c (by simp [q]))
  hold := fun c h => b.hold c (a.hold c h)
end Z
end

section
/-! ZE: readings, the heap's steps, operators on trees. -/
namespace Z
open PySem L2
/-- where classes stand, what fields are called -/
structure Nm where
  cad : Nat → Addr
  ead : Nat → Addr
  fnm : Nat → Str
  /-- the error that the except clause around names: its slot, its object, its class, its dict -/
  cur : Option (Nat × Addr × Value × Option Addr) := none
/-- an error's class and fields, its dict in F -/
def RF (M : Nm) (K : PySem.W.Frag) (F : Hp) (e : Ex) (cls : Value) (d : Option Addr) : Prop :=
  cls = .ref (M.ead e.cls) ∧ ((e.fs = [] ∧ d = none) ∨ ∃ dd vs, d = some dd ∧ F dd = some (.xd ((e.fs.map fun f => M.fnm f.1).zip vs)) ∧ RPs K F (e.fs.map (·.2)) vs)
/-- what a slot holds -/
def RS (M : Nm) (K : PySem.W.Frag) (F : Hp) (ρ : List Addr) (i : Nat) : LV → V → Prop
  | .exn e, v => ∃ a cls d, M.cur = some (i, a, cls, d) ∧ v = .ref a ∧ RF M K F e cls d
  | x, v => RL K F ρ x v
def SL (M : Nm) (K : PySem.W.Frag) (F : Hp) (ρ : List Addr) (σ : St) (φ : Slots) : Prop :=
  φ.length = σ.length ∧ ∀ (i : Nat) (x : LV), φ[i]? = some (some x) → ∃ v, σ[i]? = some (some v) ∧ RS M K F ρ i x v
/-- an error in the air; its dict will not change any more -/
def RX (M : Nm) (K : PySem.W.Frag) (F H : Hp) (e : Ex) (cls : Value) (d : Option Addr) : Prop := RF M K F e cls d
section
variable {K : PySem.W.Frag} {F F' H H' : Hp} {ρ ρ' : List Addr} {σ : St} {φ : Slots} {st : Store} {M : Nm}
abbrev HR' (M : Nm) (K : PySem.W.Frag) (F : Hp) (ρ : List Addr) (H : Hp) (st : Store) : Prop := HR K F ρ M.cad M.fnm H st
theorem RF.mono {e : Ex} {cls : Value} {d : Option Addr} (h : RF M K F e cls d) (s : Sub F F') : RF M K F' e cls d := by
  obtain ⟨h1, h2⟩ := h
  refine ⟨h1, h2.imp id fun ⟨dd, vs, e1, e2, e3⟩ => ⟨dd, vs, e1, s _ _ e2, RPs.mono s _ _ e3⟩⟩
theorem RS.of {i : Nat} {x : LV} {v : V} (h : RL K F ρ x v) : RS M K F ρ i x v := by
  cases x with
  | exn e => simp only [RL] at h
  | _ => exact h
theorem RS.rl {i : Nat} {x : LV} {v : V} (h : RS M K F ρ i x v) (hx : ∀ e, x ≠ .exn e) : RL K F ρ x v := by
  cases x with
  | exn e => exact absurd rfl (hx e)
  | _ => exact h
theorem RS.mono {i : Nat} {x : LV} {v : V} (h : RS M K F ρ i x v) (e : Sub F F') (q : Pre ρ ρ') : RS M K F' ρ' i x v := by
  cases x with
  | exn y =>
    obtain ⟨a, cls, d, h1, h2, h3⟩ := h
    exact ⟨a, cls, d, h1, h2, h3.mono e⟩
  | pv p => exact RL.mono (K := K) e q (.pv p) v h
  | ref n => exact RL.mono (K := K) e q (.ref n) v h
  | tup xs => exact RL.mono (K := K) e q (.tup xs) v h
theorem SL.mono (h : SL M K F ρ σ φ) (e : Sub F F') (q : Pre ρ ρ') : SL M K F' ρ' σ φ := ⟨h.1, fun i x hx => by
  obtain ⟨v, h1, h2⟩ := h.2 i x hx
  exact ⟨v, h1, h2.mono e q⟩⟩
theorem SL.g (h : SL M K F ρ σ φ) (g : G F ρ H F' ρ' H') : SL M K F' ρ' σ φ := h.mono g.sub g.pre
theorem SL.set {x : LV} {v : V} (h : SL M K F ρ σ φ) (i : Nat) (r : RL K F ρ x v) : SL M K F ρ (σ.set i (some v)) (φ.set i (some x)) := by
  refine ⟨by simp [h.1], fun j y hy => ?_⟩
  by_cases hj : i = j
  · subst hj
    by_cases hl : i < φ.length
    · rw [List.getElem?_set_self hl] at hy
      cases hy
      exact ⟨v, List.getElem?_set_self (by rw [← h.1]; exact hl), .of r⟩
    · rw [List.getElem?_eq_none (by simpa using Nat.le_of_not_lt hl)] at hy
      cases hy
  · rw [List.getElem?_set_ne hj] at hy ⊢
    exact h.2 j y hy
theorem CR.mono {a : Addr} {c : Cell} (h : CR K F ρ M.cad M.fnm H a c) (e : Sub F F') (q : Pre ρ ρ') (hH : ∀ o, H a = some o → H' a = some o) (hF : F a = none → F' a = none) : CR K F' ρ' M.cad M.fnm H' a c := by
  cases c with
  | lst live xs =>
    obtain ⟨vs, h1, h2, h3, h4⟩ := h
    exact ⟨vs, hH _ h1, RLs.mono e q _ _ h2, fun z => hF (h3 z), fun z => e _ _ (h4 z)⟩
  | dk live xs =>
    obtain ⟨vs, h1, h2, h3, h4⟩ := h
    exact ⟨vs, hH _ h1, RLk.mono e q h2, fun z => hF (h3 z), fun z => e _ _ (h4 z)⟩
  | dt live xs =>
    obtain ⟨vs, h1, h2, h3, h4⟩ := h
    exact ⟨vs, hH _ h1, RLt.mono e q h2, fun z => hF (h3 z), fun z => e _ _ (h4 z)⟩
  | ins C fs =>
    obtain ⟨dx, vs, h1, h2, h3⟩ := h
    exact ⟨dx, vs, hH _ h1, RLs.mono e q _ _ h2, hF h3⟩
theorem CR.there {a : Addr} {c : Cell} (h : CR K F ρ M.cad M.fnm H a c) : ∃ o, H a = some o := by
  cases c with
  | lst live xs => obtain ⟨vs, h1, _⟩ := h; exact ⟨_, h1⟩
  | dk live xs => obtain ⟨vs, h1, _⟩ := h; exact ⟨_, h1⟩
  | dt live xs => obtain ⟨vs, h1, _⟩ := h; exact ⟨_, h1⟩
  | ins C fs => obtain ⟨dx, vs, h1, _⟩ := h; exact ⟨_, h1⟩
theorem HR.at (h : HR' M K F ρ H st) {n : Nat} {a : Addr} (e : ρ[n]? = some a) : ∃ c, st[n]? = some c ∧ CR K F ρ M.cad M.fnm H a c := by
  have hn : n < st.length := by
    rw [← h.len]
    exact (List.getElem?_eq_some_iff.mp e).1
  exact ⟨st[n], List.getElem?_eq_getElem hn, h.cell n a _ e (List.getElem?_eq_getElem hn)⟩
theorem HR.in (h : HR' M K F ρ H st) {a : Addr} (e : a ∈ ρ) : ∃ o, H a = some o := by
  obtain ⟨n, hn, en⟩ := List.mem_iff_getElem.mp e
  obtain ⟨c, _, hc⟩ := h.at (n := n) (a := a) (by rw [List.getElem?_eq_getElem hn, en])
  exact hc.there
theorem HR.fresh (h : HR' M K F ρ H st) {p : Addr} (np : H p = none) : F p = none := by
  cases e : F p with
  | none => rfl
  | some o => rw [h.sub p o e] at np; cases np
theorem HR.notin (h : HR' M K F ρ H st) {p : Addr} (np : H p = none) : p ∉ ρ := fun e => by
  obtain ⟨o, ho⟩ := h.in e
  rw [ho] at np; cases np
theorem sub_upd {p : Addr} {o : HO} (np : F p = none) : Sub F (upd F p o) := fun b u e => by rw [upd_ne (ne_of_none e np)]; exact e
theorem sub_upd2 {p : Addr} {o : HO} (s : Sub F H) : Sub (upd F p o) (upd H p o) := fun b u e => by
  by_cases hb : b = p
  · subst hb; rw [upd_same] at e ⊢; exact e
  · rw [upd_ne hb] at e ⊢; exact s b u e
/-- a new object that nothing will change -/
theorem HR.new (h : HR' M K F ρ H st) {p : Addr} (np : H p = none) (o : HO) : G F ρ H (upd F p o) ρ (upd H p o) ∧ HR' M K (upd F p o) ρ (upd H p o) st := by
  have nF := h.fresh np
  refine ⟨⟨sub_upd nF, Pre.refl ρ, fun b u e _ => by rw [upd_ne (ne_of_none e np)]; exact e, fun b u e => ?_, fun b hb => .inl hb, fun b hb => ?_⟩,
    ⟨sub_upd2 h.sub, h.len, h.nd, fun n a c e1 e2 => ?_⟩⟩
  · by_cases hb : b = p
    · exact .inr (.inl (by rw [hb]; exact np))
    · rw [upd_ne hb] at e; exact .inl e
  · by_cases hp : b = p
    · rw [hp, upd_same]; simp
    · rw [upd_ne hp]; exact hb
  · have hc := h.cell n a c e1 e2
    obtain ⟨u, hu⟩ := hc.there
    have hne : a ≠ p := ne_of_none hu np
    exact hc.mono (sub_upd nF) (Pre.refl ρ) (fun u e => by rw [upd_ne hne]; exact e) fun e => by rw [upd_ne hne]; exact e
/-- a new object that only the heap knows of -/
theorem HR.laid (h : HR' M K F ρ H st) {p : Addr} (np : H p = none) (o : HO) : G F ρ H F ρ (upd H p o) ∧ HR' M K F ρ (upd H p o) st := by
  have nF := h.fresh np
  refine ⟨⟨Sub.refl F, Pre.refl ρ, fun b u e _ => by rw [upd_ne (ne_of_none e np)]; exact e, fun b u e => .inl e, fun b hb => .inl hb, fun b hb => ?_⟩,
    ⟨fun b u e => by rw [upd_ne (ne_of_none e nF)]; exact h.sub b u e, h.len, h.nd, fun n a c e1 e2 => ?_⟩⟩
  · by_cases hp : b = p
    · rw [hp, upd_same]; simp
    · rw [upd_ne hp]; exact hb
  · have hc := h.cell n a c e1 e2
    obtain ⟨u, hu⟩ := hc.there
    have hne : a ≠ p := ne_of_none hu np
    exact hc.mono (Sub.refl F) (Pre.refl ρ) (fun u e => by rw [upd_ne hne]; exact e) fun e => e
/-- a new cell -/
theorem HR.cellN (h : HR' M K F ρ H st) {p : Addr} (np : H p = none) {o : HO} {c : Cell} (hc : CR K F (ρ ++ [p]) M.cad M.fnm (upd H p o) p c) : G F ρ H F (ρ ++ [p]) (upd H p o) ∧ HR' M K F (ρ ++ [p]) (upd H p o) (st ++ [c]) := by
  have nF := h.fresh np
  have nρ := h.notin np
  refine ⟨⟨Sub.refl F, Pre.snoc ρ p, fun b u e _ => by rw [upd_ne (ne_of_none e np)]; exact e, fun b u e => .inl e, fun b hb => ?_, fun b hb => ?_⟩,
    ⟨fun b u e => by rw [upd_ne (ne_of_none e nF)]; exact h.sub b u e, by rw [List.length_append, List.length_append, h.len]; rfl, ?_, fun n a c' e1 e2 => ?_⟩⟩
  · rcases List.mem_append.mp hb with z | z
    · exact .inl z
    · have : b = p := by simpa using z
      subst this
      exact .inr np
  · by_cases hp : b = p
    · rw [hp, upd_same]; simp
    · rw [upd_ne hp]; exact hb
  · exact List.nodup_append.mpr ⟨h.nd, by simp, fun x hx y hy e => nρ (by
      have : y = p := by simpa using hy
      rw [← this, ← e]; exact hx)⟩
  · by_cases hn : n < ρ.length
    · rw [List.getElem?_append_left hn] at e1
      rw [List.getElem?_append_left (by rw [← h.len]; exact hn)] at e2
      have hc' := h.cell n a c' e1 e2
      obtain ⟨u, hu⟩ := hc'.there
      have hne : a ≠ p := ne_of_none hu np
      exact hc'.mono (Sub.refl F) (Pre.snoc ρ p) (fun u e => by rw [upd_ne hne]; exact e) fun e => e
    · have hn' : n = ρ.length := by
        have := (List.getElem?_eq_some_iff.mp e1).1
        rw [List.length_append] at this
        simp only [List.length_cons, List.length_nil] at this
        omega
      subst hn'
      rw [List.getElem?_append_right (Nat.le_refl _)] at e1
      rw [h.len, List.getElem?_append_right (Nat.le_refl _)] at e2
      simp only [Nat.sub_self, List.getElem?_cons_zero, Option.some.injEq] at e1 e2
      subst e1 e2
      exact hc
/-- a cell is written -/
theorem HR.write (h : HR' M K F ρ H st) {n : Nat} {a : Addr} (ea : ρ[n]? = some a) (hF : F a = none) {o : HO} {c : Cell} (hc : CR K F ρ M.cad M.fnm (upd H a o) a c) : G F ρ H F ρ (upd H a o) ∧ HR' M K F ρ (upd H a o) (st.set n c) := by
  have ha : a ∈ ρ := List.mem_of_getElem? ea
  refine ⟨⟨Sub.refl F, Pre.refl ρ, fun b u e hb => by rw [upd_ne (fun z => hb (by rw [z]; exact ha))]; exact e, fun b u e => .inl e, fun b hb => .inl hb, fun b hb => ?_⟩,
    ⟨fun b u e => by rw [upd_ne (ne_of_none e hF)]; exact h.sub b u e, by rw [List.length_set]; exact h.len, h.nd, fun m b c' e1 e2 => ?_⟩⟩
  · by_cases hp : b = a
    · rw [hp, upd_same]; simp
    · rw [upd_ne hp]; exact hb
  · by_cases hm : n = m
    · subst hm
      rw [ea] at e1
      cases e1
      rw [List.getElem?_set_self (by rw [← h.len]; exact (List.getElem?_eq_some_iff.mp ea).1)] at e2
      cases e2
      exact hc
    · rw [List.getElem?_set_ne hm] at e2
      have hc' := h.cell m b c' e1 e2
      have hne : b ≠ a := fun z => hm (by
        subst z
        obtain ⟨l1, x1⟩ := List.getElem?_eq_some_iff.mp ea
        obtain ⟨l2, x2⟩ := List.getElem?_eq_some_iff.mp e1
        exact (List.getElem_inj h.nd).mp (x1.trans x2.symm))
      exact hc'.mono (Sub.refl F) (Pre.refl ρ) (fun u e => by rw [upd_ne hne]; exact e) fun e => e
/-- a cell is frozen -/
theorem HR.froze (h : HR' M K F ρ H st) {n : Nat} {a : Addr} (ea : ρ[n]? = some a) {o : HO} (hH : H a = some o) {c : Cell} (hF : F a = none ∨ F a = some o) (hc : CR K (upd F a o) ρ M.cad M.fnm H a c) :
    G F ρ H (upd F a o) ρ H ∧ HR' M K (upd F a o) ρ H (st.set n c) := by
  have ha : a ∈ ρ := List.mem_of_getElem? ea
  have hs : Sub F (upd F a o) := fun b u e => by
    by_cases hb : b = a
    · subst hb
      rcases hF with z | z
      · rw [z] at e; cases e
      · rw [z] at e; rw [upd_same]; exact e
    · rw [upd_ne hb]; exact e
  refine ⟨⟨hs, Pre.refl ρ, fun b u e _ => e, fun b u e => ?_, fun b hb => .inl hb, fun b hb => hb⟩,
    ⟨fun b u e => ?_, by rw [List.length_set]; exact h.len, h.nd, fun m b c' e1 e2 => ?_⟩⟩
  · by_cases hb : b = a
    · exact .inr (.inr (by rw [hb]; exact ha))
    · rw [upd_ne hb] at e; exact .inl e
  · by_cases hb : b = a
    · subst hb
      rw [upd_same] at e
      rw [← e]; exact hH
    · rw [upd_ne hb] at e; exact h.sub b u e
  · by_cases hm : n = m
    · subst hm
      rw [ea] at e1
      cases e1
      rw [List.getElem?_set_self (by rw [← h.len]; exact (List.getElem?_eq_some_iff.mp ea).1)] at e2
      cases e2
      exact hc
    · rw [List.getElem?_set_ne hm] at e2
      have hc' := h.cell m b c' e1 e2
      have hne : b ≠ a := fun z => hm (by
        subst z
        obtain ⟨l1, x1⟩ := List.getElem?_eq_some_iff.mp ea
        obtain ⟨l2, x2⟩ := List.getElem?_eq_some_iff.mp e1
        exact (List.getElem_inj h.nd).mp (x1.trans x2.symm))
      exact hc'.mono hs (Pre.refl ρ) (fun u e => e) fun e => by rw [upd_ne hne]; exact e

/-! ### what is seen of a name now -/
def PK (K : PySem.W.Frag) (F H : Hp) : PV → V → Prop
  | .lst xs, v => ∃ a vs, v = .ref a ∧ H a = some (.lst vs) ∧ RPs K F xs vs
  | .dk kvs, v => ∃ a ks, v = .ref a ∧ H a = some (.dK ks) ∧ RPk K F kvs ks
  | .dt kvs, v => ∃ a ks, v = .ref a ∧ H a = some (.dT ks) ∧ RPt K F kvs ks
  | p, v => RP K F p v
theorem PK.of (s : Sub F H) : ∀ {p : PV} {v : V}, RP K F p v → PK K F H p v
  | .lst xs, v, h => by
    simp only [RP] at h
    obtain ⟨a, vs, e1, e2, e3⟩ := h
    exact ⟨a, vs, e1, s _ _ e2, e3⟩
  | .dk xs, v, h => by
    simp only [RP] at h
    obtain ⟨a, vs, e1, e2, e3⟩ := h
    exact ⟨a, vs, e1, s _ _ e2, e3⟩
  | .dt xs, v, h => by
    simp only [RP] at h
    obtain ⟨a, vs, e1, e2, e3⟩ := h
    exact ⟨a, vs, e1, s _ _ e2, e3⟩
  | .non, _, h => h
  | .bl _, _, h => h
  | .int _, _, h => h
  | .str _, _, h => h
  | .tup _, _, h => h
  | .scr _, _, h => h
theorem peek_ok (h : HR' M K F ρ H st) : ∀ {x : LV} {v : V} {p : PV}, RL K F ρ x v → peek st x = some p → PK K F H p v
  | .pv q, v, p, r, e => by
    simp only [peek, Option.some.injEq] at e
    subst e
    simp only [RL] at r
    exact PK.of h.sub r
  | .ref n, v, p, r, e => by
    simp only [RL] at r
    obtain ⟨a, ev, ea⟩ := r
    obtain ⟨c, ec, hc⟩ := h.at ea
    unfold peek at e
    simp only [ec] at e
    cases c with
    | lst live xs =>
      obtain ⟨vs, h1, h2, _⟩ := hc
      simp only [Option.map_eq_some_iff] at e
      obtain ⟨ps, e1, e2⟩ := e
      subst e2
      rw [unpv_eq e1] at h2
      exact ⟨a, vs, ev, h1, RLs_pv.mp h2⟩
    | dk live xs =>
      obtain ⟨vs, h1, h2, _⟩ := hc
      simp only [Option.map_eq_some_iff] at e
      obtain ⟨ps, e1, e2⟩ := e
      subst e2
      rw [unpvK_eq e1] at h2
      exact ⟨a, vs, ev, h1, RLk_pv.mp h2⟩
    | dt live xs =>
      obtain ⟨vs, h1, h2, _⟩ := hc
      simp only [Option.map_eq_some_iff] at e
      obtain ⟨ps, e1, e2⟩ := e
      subst e2
      rw [unpvK_eq e1] at h2
      exact ⟨a, vs, ev, h1, RLt_pv.mp h2⟩
    | ins C fs => cases e
  | .tup xs, _, _, _, e => by simp [peek] at e
  | .exn _, _, _, _, e => by simp [peek] at e
end
end Z
end

section
/-! ZF: readings. -/
namespace Z
open PySem L2
section
variable (M : Nm) (K : PySem.W.Frag) (W : WX)
def PostE (σ : St) (F : Hp) (ρ : List Addr) (H : Hp) (Q : VK) : ER → Prop
  | .ok x st => ∀ F' ρ' H' v, G F ρ H F' ρ' H' → HR' M K F' ρ' H' st → RL K F' ρ' x v → Q v H'
  | .ex e st => ∀ F' ρ' H' cls d, G F ρ H F' ρ' H' → HR' M K F' ρ' H' st → RX M K F' H' e cls d → W cls d σ H'
def PostA (σ : St) (F : Hp) (ρ : List Addr) (H : Hp) (Q : List V → Hp → Prop) : ERs → Prop
  | .ok xs st => ∀ F' ρ' H' vs, G F ρ H F' ρ' H' → HR' M K F' ρ' H' st → RLs K F' ρ' xs vs → Q vs H'
  | .ex e st => ∀ F' ρ' H' cls d, G F ρ H F' ρ' H' → HR' M K F' ρ' H' st → RX M K F' H' e cls d → W cls d σ H'
def PostT (σ : St) (F : Hp) (ρ : List Addr) (H : Hp) (Q : Bool → Hp → Prop) : ET → Prop
  | .ok b st => ∀ F' ρ' H', G F ρ H F' ρ' H' → HR' M K F' ρ' H' st → Q b H'
  | .ex e st => ∀ F' ρ' H' cls d, G F ρ H F' ρ' H' → HR' M K F' ρ' H' st → RX M K F' H' e cls d → W cls d σ H'
def PostS (F : Hp) (ρ : List Addr) (H : Hp) (D : Ends) : FR → Prop
  | .nx φ st => ∀ F' ρ' H' σ', G F ρ H F' ρ' H' → HR' M K F' ρ' H' st → SL M K F' ρ' σ' φ → D.nx σ' H'
  | .bk φ st => ∀ F' ρ' H' σ', G F ρ H F' ρ' H' → HR' M K F' ρ' H' st → SL M K F' ρ' σ' φ → D.bk σ' H'
  | .ct φ st => ∀ F' ρ' H' σ', G F ρ H F' ρ' H' → HR' M K F' ρ' H' st → SL M K F' ρ' σ' φ → D.ct σ' H'
  | .rt x st => ∀ F' ρ' H' v, G F ρ H F' ρ' H' → HR' M K F' ρ' H' st → RL K F' ρ' x v → D.rt v H'
  | .ex e φ st => ∀ F' ρ' H' σ' cls d, G F ρ H F' ρ' H' → HR' M K F' ρ' H' st → SL M K F' ρ' σ' φ → RX M K F' H' e cls d → W cls d σ' H'
def RdE (t : TE) (f : Slots → Store → Option ER) : Prop := ∀ σ H Q φ F ρ st r, HR' M K F ρ H st → SL M K F ρ σ φ → f φ st = some r → PostE M K W σ F ρ H Q r → t σ H Q
def RdA (t : TA) (f : Slots → Store → Option ERs) : Prop := ∀ σ H Q φ F ρ st r, HR' M K F ρ H st → SL M K F ρ σ φ → f φ st = some r → PostA M K W σ F ρ H Q r → t σ H Q
def RdT (t : TT) (f : Slots → Store → Option ET) : Prop := ∀ σ H Q φ F ρ st r, HR' M K F ρ H st → SL M K F ρ σ φ → f φ st = some r → PostT M K W σ F ρ H Q r → t σ H Q
def RdS (t : TS) (f : Slots → Store → Option FR) : Prop := ∀ D σ H φ F ρ st r, HR' M K F ρ H st → SL M K F ρ σ φ → f φ st = some r → PostS M K W F ρ H D r → t D σ H
/-- an operation on values -/
def RdV2 (r : R2) (g : LV → LV → Store → Option ER) : Prop := ∀ σ H Q F ρ st x y v w res, HR' M K F ρ H st → RL K F ρ x v → RL K F ρ y w → g x y st = some res → PostE M K W σ F ρ H Q res → r v w H Q
def RdV1 (r : V → Hp → VK → Prop) (g : LV → Store → Option ER) : Prop := ∀ σ H Q F ρ st x v res, HR' M K F ρ H st → RL K F ρ x v → g x st = some res → PostE M K W σ F ρ H Q res → r v H Q
def RdVs (r : List V → Hp → VK → Prop) (g : List LV → Store → Option ER) : Prop := ∀ σ H Q F ρ st xs vs res, HR' M K F ρ H st → RLs K F ρ xs vs → g xs st = some res → PostE M K W σ F ρ H Q res → r vs H Q
end
section
variable {M : Nm} {K : PySem.W.Frag} {W : WX} {σ : St} {F F' H H' : Hp} {ρ ρ' : List Addr} {st : Store}
theorem PostE.g {Q : VK} {r : ER} (p : PostE M K W σ F ρ H Q r) (g : G F ρ H F' ρ' H') : PostE M K W σ F' ρ' H' Q r := by
  cases r with
  | ok x st => exact fun F2 ρ2 H2 v g2 h2 r2 => p F2 ρ2 H2 v (g.trans g2) h2 r2
  | ex e st => exact fun F2 ρ2 H2 c d g2 h2 r2 => p F2 ρ2 H2 c d (g.trans g2) h2 r2
theorem PostA.g {Q : List V → Hp → Prop} {r : ERs} (p : PostA M K W σ F ρ H Q r) (g : G F ρ H F' ρ' H') : PostA M K W σ F' ρ' H' Q r := by
  cases r with
  | ok x st => exact fun F2 ρ2 H2 v g2 h2 r2 => p F2 ρ2 H2 v (g.trans g2) h2 r2
  | ex e st => exact fun F2 ρ2 H2 c d g2 h2 r2 => p F2 ρ2 H2 c d (g.trans g2) h2 r2
theorem PostT.g {Q : Bool → Hp → Prop} {r : ET} (p : PostT M K W σ F ρ H Q r) (g : G F ρ H F' ρ' H') : PostT M K W σ F' ρ' H' Q r := by
  cases r with
  | ok x st => exact fun F2 ρ2 H2 g2 h2 => p F2 ρ2 H2 (g.trans g2) h2
  | ex e st => exact fun F2 ρ2 H2 c d g2 h2 r2 => p F2 ρ2 H2 c d (g.trans g2) h2 r2
theorem PostS.g {D : Ends} {r : FR} (p : PostS M K W F ρ H D r) (g : G F ρ H F' ρ' H') : PostS M K W F' ρ' H' D r := by
  cases r with
  | nx φ st => exact fun F2 ρ2 H2 v g2 h2 r2 => p F2 ρ2 H2 v (g.trans g2) h2 r2
  | bk φ st => exact fun F2 ρ2 H2 v g2 h2 r2 => p F2 ρ2 H2 v (g.trans g2) h2 r2
  | ct φ st => exact fun F2 ρ2 H2 v g2 h2 r2 => p F2 ρ2 H2 v (g.trans g2) h2 r2
  | rt φ st => exact fun F2 ρ2 H2 v g2 h2 r2 => p F2 ρ2 H2 v (g.trans g2) h2 r2
  | ex e φ st => exact fun F2 ρ2 H2 v c d g2 h2 r2 x2 => p F2 ρ2 H2 v c d (g.trans g2) h2 r2 x2

/-! ### sequences -/
theorem RdE.bind {t : TE} {f : Slots → Store → Option ER} (h : RdE M K W t f) {φ : Slots} {g : LV → Store → Option ER} {r : ER} {Q U : VK} (hh : HR' M K F ρ H st) (hs : SL M K F ρ σ φ) (e : R.bind (f φ st) g = some r) (p : PostE M K W σ F ρ H Q r)
    (k : ∀ x st1 F1 ρ1 H1 v, g x st1 = some r → G F ρ H F1 ρ1 H1 → HR' M K F1 ρ1 H1 st1 → RL K F1 ρ1 x v → PostE M K W σ F1 ρ1 H1 Q r → U v H1) : t σ H U := by
  cases q : f φ st with
  | none => rw [q] at e; cases e
  | some a =>
    rw [q] at e
    cases a with
    | ok x st1 => exact h σ H U φ F ρ st _ hh hs q fun F1 ρ1 H1 v g1 h1 r1 => k x st1 F1 ρ1 H1 v e g1 h1 r1 (p.g g1)
    | ex x st1 =>
      have e' : r = .ex x st1 := (Option.some.inj e).symm
      subst e'
      exact h σ H U φ F ρ st _ hh hs q p
theorem RdE.bindT {t : TE} {f : Slots → Store → Option ER} (h : RdE M K W t f) {φ : Slots} {g : LV → Store → Option ET} {r : ET} {Q : Bool → Hp → Prop} {U : VK} (hh : HR' M K F ρ H st) (hs : SL M K F ρ σ φ) (e : R.bt (f φ st) g = some r) (p : PostT M K W σ F ρ H Q r)
    (k : ∀ x st1 F1 ρ1 H1 v, g x st1 = some r → G F ρ H F1 ρ1 H1 → HR' M K F1 ρ1 H1 st1 → RL K F1 ρ1 x v → PostT M K W σ F1 ρ1 H1 Q r → U v H1) : t σ H U := by
  cases q : f φ st with
  | none => rw [q] at e; cases e
  | some a =>
    rw [q] at e
    cases a with
    | ok x st1 => exact h σ H U φ F ρ st _ hh hs q fun F1 ρ1 H1 v g1 h1 r1 => k x st1 F1 ρ1 H1 v e g1 h1 r1 (p.g g1)
    | ex x st1 =>
      have e' : r = .ex x st1 := (Option.some.inj e).symm
      subst e'
      exact h σ H U φ F ρ st _ hh hs q p
theorem RdE.bindA {t : TE} {f : Slots → Store → Option ER} (h : RdE M K W t f) {φ : Slots} {g : LV → Store → Option ERs} {r : ERs} {Q : List V → Hp → Prop} {U : VK} (hh : HR' M K F ρ H st) (hs : SL M K F ρ σ φ) (e : R.bs (f φ st) g = some r) (p : PostA M K W σ F ρ H Q r)
    (k : ∀ x st1 F1 ρ1 H1 v, g x st1 = some r → G F ρ H F1 ρ1 H1 → HR' M K F1 ρ1 H1 st1 → RL K F1 ρ1 x v → PostA M K W σ F1 ρ1 H1 Q r → U v H1) : t σ H U := by
  cases q : f φ st with
  | none => rw [q] at e; cases e
  | some a =>
    rw [q] at e
    cases a with
    | ok x st1 => exact h σ H U φ F ρ st _ hh hs q fun F1 ρ1 H1 v g1 h1 r1 => k x st1 F1 ρ1 H1 v e g1 h1 r1 (p.g g1)
    | ex x st1 =>
      have e' : r = .ex x st1 := (Option.some.inj e).symm
      subst e'
      exact h σ H U φ F ρ st _ hh hs q p
theorem RdE.bindS {t : TE} {f : Slots → Store → Option ER} (h : RdE M K W t f) {φ : Slots} {g : LV → Store → Option FR} {r : FR} {D : Ends} {U : VK} (hh : HR' M K F ρ H st) (hs : SL M K F ρ σ φ) (e : R.bf φ (f φ st) g = some r) (p : PostS M K W F ρ H D r)
    (k : ∀ x st1 F1 ρ1 H1 v, g x st1 = some r → G F ρ H F1 ρ1 H1 → HR' M K F1 ρ1 H1 st1 → RL K F1 ρ1 x v → PostS M K W F1 ρ1 H1 D r → U v H1) : t σ H U := by
  cases q : f φ st with
  | none => rw [q] at e; cases e
  | some a =>
    rw [q] at e
    cases a with
    | ok x st1 => exact h σ H U φ F ρ st _ hh hs q fun F1 ρ1 H1 v g1 h1 r1 => k x st1 F1 ρ1 H1 v e g1 h1 r1 (p.g g1)
    | ex x st1 =>
      have e' : r = .ex x φ st1 := (Option.some.inj e).symm
      subst e'
      exact h σ H U φ F ρ st _ hh hs q fun F1 ρ1 H1 c d g1 h1 x1 => p F1 ρ1 H1 σ c d g1 h1 (hs.g g1) x1
theorem RdA.bind {t : TA} {f : Slots → Store → Option ERs} (h : RdA M K W t f) {φ : Slots} {g : List LV → Store → Option ER} {r : ER} {Q : VK} {U : List V → Hp → Prop} (hh : HR' M K F ρ H st) (hs : SL M K F ρ σ φ) (e : Rs.bind (f φ st) g = some r) (p : PostE M K W σ F ρ H Q r)
    (k : ∀ x st1 F1 ρ1 H1 v, g x st1 = some r → G F ρ H F1 ρ1 H1 → HR' M K F1 ρ1 H1 st1 → RLs K F1 ρ1 x v → PostE M K W σ F1 ρ1 H1 Q r → U v H1) : t σ H U := by
  cases q : f φ st with
  | none => rw [q] at e; cases e
  | some a =>
    rw [q] at e
    cases a with
    | ok x st1 => exact h σ H U φ F ρ st _ hh hs q fun F1 ρ1 H1 v g1 h1 r1 => k x st1 F1 ρ1 H1 v e g1 h1 r1 (p.g g1)
    | ex x st1 =>
      have e' : r = .ex x st1 := (Option.some.inj e).symm
      subst e'
      exact h σ H U φ F ρ st _ hh hs q p
theorem RdA.bindA {t : TA} {f : Slots → Store → Option ERs} (h : RdA M K W t f) {φ : Slots} {g : List LV → Store → Option ERs} {r : ERs} {Q U : List V → Hp → Prop} (hh : HR' M K F ρ H st) (hs : SL M K F ρ σ φ) (e : Rs.bs (f φ st) g = some r) (p : PostA M K W σ F ρ H Q r)
    (k : ∀ x st1 F1 ρ1 H1 v, g x st1 = some r → G F ρ H F1 ρ1 H1 → HR' M K F1 ρ1 H1 st1 → RLs K F1 ρ1 x v → PostA M K W σ F1 ρ1 H1 Q r → U v H1) : t σ H U := by
  cases q : f φ st with
  | none => rw [q] at e; cases e
  | some a =>
    rw [q] at e
    cases a with
    | ok x st1 => exact h σ H U φ F ρ st _ hh hs q fun F1 ρ1 H1 v g1 h1 r1 => k x st1 F1 ρ1 H1 v e g1 h1 r1 (p.g g1)
    | ex x st1 =>
      have e' : r = .ex x st1 := (Option.some.inj e).symm
      subst e'
      exact h σ H U φ F ρ st _ hh hs q p
theorem RdA.bindS {t : TA} {f : Slots → Store → Option ERs} (h : RdA M K W t f) {φ : Slots} {g : List LV → Store → Option FR} {r : FR} {D : Ends} {U : List V → Hp → Prop} (hh : HR' M K F ρ H st) (hs : SL M K F ρ σ φ) (e : Rs.bf φ (f φ st) g = some r) (p : PostS M K W F ρ H D r)
    (k : ∀ x st1 F1 ρ1 H1 v, g x st1 = some r → G F ρ H F1 ρ1 H1 → HR' M K F1 ρ1 H1 st1 → RLs K F1 ρ1 x v → PostS M K W F1 ρ1 H1 D r → U v H1) : t σ H U := by
  cases q : f φ st with
  | none => rw [q] at e; cases e
  | some a =>
    rw [q] at e
    cases a with
    | ok x st1 => exact h σ H U φ F ρ st _ hh hs q fun F1 ρ1 H1 v g1 h1 r1 => k x st1 F1 ρ1 H1 v e g1 h1 r1 (p.g g1)
    | ex x st1 =>
      have e' : r = .ex x φ st1 := (Option.some.inj e).symm
      subst e'
      exact h σ H U φ F ρ st _ hh hs q fun F1 ρ1 H1 c d g1 h1 x1 => p F1 ρ1 H1 σ c d g1 h1 (hs.g g1) x1
theorem RdT.bind {t : TT} {f : Slots → Store → Option ET} (h : RdT M K W t f) {φ : Slots} {g : Bool → Store → Option ER} {r : ER} {Q : VK} {U : Bool → Hp → Prop} (hh : HR' M K F ρ H st) (hs : SL M K F ρ σ φ) (e : T.bind (f φ st) g = some r) (p : PostE M K W σ F ρ H Q r)
    (k : ∀ x st1 F1 ρ1 H1, g x st1 = some r → G F ρ H F1 ρ1 H1 → HR' M K F1 ρ1 H1 st1 → PostE M K W σ F1 ρ1 H1 Q r → U x H1) : t σ H U := by
  cases q : f φ st with
  | none => rw [q] at e; cases e
  | some a =>
    rw [q] at e
    cases a with
    | ok x st1 => exact h σ H U φ F ρ st _ hh hs q fun F1 ρ1 H1 g1 h1 => k x st1 F1 ρ1 H1 e g1 h1 (p.g g1)
    | ex x st1 =>
      have e' : r = .ex x st1 := (Option.some.inj e).symm
      subst e'
      exact h σ H U φ F ρ st _ hh hs q p
theorem RdT.bindT {t : TT} {f : Slots → Store → Option ET} (h : RdT M K W t f) {φ : Slots} {g : Bool → Store → Option ET} {r : ET} {Q U : Bool → Hp → Prop} (hh : HR' M K F ρ H st) (hs : SL M K F ρ σ φ) (e : T.bt (f φ st) g = some r) (p : PostT M K W σ F ρ H Q r)
    (k : ∀ x st1 F1 ρ1 H1, g x st1 = some r → G F ρ H F1 ρ1 H1 → HR' M K F1 ρ1 H1 st1 → PostT M K W σ F1 ρ1 H1 Q r → U x H1) : t σ H U := by
  cases q : f φ st with
  | none => rw [q] at e; cases e
  | some a =>
    rw [q] at e
    cases a with
    | ok x st1 => exact h σ H U φ F ρ st _ hh hs q fun F1 ρ1 H1 g1 h1 => k x st1 F1 ρ1 H1 e g1 h1 (p.g g1)
    | ex x st1 =>
      have e' : r = .ex x st1 := (Option.some.inj e).symm
      subst e'
      exact h σ H U φ F ρ st _ hh hs q p
theorem RdT.bindS {t : TT} {f : Slots → Store → Option ET} (h : RdT M K W t f) {φ : Slots} {g : Bool → Store → Option FR} {r : FR} {D : Ends} {U : Bool → Hp → Prop} (hh : HR' M K F ρ H st) (hs : SL M K F ρ σ φ) (e : T.bf φ (f φ st) g = some r) (p : PostS M K W F ρ H D r)
    (k : ∀ x st1 F1 ρ1 H1, g x st1 = some r → G F ρ H F1 ρ1 H1 → HR' M K F1 ρ1 H1 st1 → PostS M K W F1 ρ1 H1 D r → U x H1) : t σ H U := by
  cases q : f φ st with
  | none => rw [q] at e; cases e
  | some a =>
    rw [q] at e
    cases a with
    | ok x st1 => exact h σ H U φ F ρ st _ hh hs q fun F1 ρ1 H1 g1 h1 => k x st1 F1 ρ1 H1 e g1 h1 (p.g g1)
    | ex x st1 =>
      have e' : r = .ex x φ st1 := (Option.some.inj e).symm
      subst e'
      exact h σ H U φ F ρ st _ hh hs q fun F1 ρ1 H1 c d g1 h1 x1 => p F1 ρ1 H1 σ c d g1 h1 (hs.g g1) x1
/-- a tree comes -/
theorem PostE.tree {Q : VK} {p : PV} {v : V} (q : PostE M K W σ F ρ H Q (.ok (.pv p) st)) (hh : HR' M K F ρ H st) (r : RP K F p v) : Q v H := q F ρ H v (G.refl F ρ H) hh (by simp only [RL]; exact r)
theorem PostE.here {Q : VK} {x : LV} {v : V} (q : PostE M K W σ F ρ H Q (.ok x st)) (hh : HR' M K F ρ H st) (r : RL K F ρ x v) : Q v H := q F ρ H v (G.refl F ρ H) hh r

theorem rd_op {ta tb : TE} {fa fb : Slots → Store → Option ER} {r : R2} {g : LV → LV → Store → Option ER} (ha : RdE M K W ta fa) (hb : RdE M K W tb fb) (hr : RdV2 M K W r g) :
    RdE M K W (tOp r ta tb) fun φ st => R.bind (fa φ st) fun x st => R.bind (fb φ st) fun y st => g x y st := by
  intro σ H Q φ F ρ st res hh hs e p
  refine ha.bind hh hs e p fun x st1 F1 ρ1 H1 v e1 g1 h1 r1 p1 => ?_
  refine hb.bind h1 (hs.g g1) e1 p1 fun y st2 F2 ρ2 H2 w e2 g2 h2 r2 p2 => ?_
  exact hr σ H2 Q F2 ρ2 st2 x y v w res h2 (RL.mono g2.sub g2.pre x v r1) r2 e2 p2
end
end Z
end

section
/-! ZG: the operators' rules of the layer, joined, and their readings. -/
namespace Z
open PySem PySem.Spec PyProof.Rows L2
theorem line_eq : sizeLine = line := by rw [sizeLine_eq]; rfl
section
variable {K : PySem.W.Frag} {F H : Hp}
mutual
theorem RP.dp (s : Sub F H) : ∀ (p : PV) (v : V), RP K F p v → eqOk p = true → Dp K H v (toD p) ∧ (toD p).canLay0 = true
  | .non, v, h, _ => by
    simp only [RP] at h; subst h
    exact ⟨by simp only [toD]; exact .non, by simp [toD, PyData.canLay0]⟩
  | .bl b, v, h, _ => by
    simp only [RP] at h; subst h
    exact ⟨by simp only [toD]; exact .bl b, by simp [toD, PyData.canLay0]⟩
  | .int i, v, h, _ => by
    simp only [RP] at h; subst h
    exact ⟨by simp only [toD]; exact .int i, by simp [toD, PyData.canLay0]⟩
  | .str x, v, h, _ => by
    simp only [RP] at h
    obtain ⟨h1, h2⟩ := h
    subst h1
    refine ⟨by simp only [toD]; exact .str _, ?_⟩
    simp only [toD, PyData.canLay0, PyData.strOk, mkS]
    simpa [okS] using h2
  | .tup xs, v, h, e => by
    simp only [RP] at h
    obtain ⟨a, vs, e1, e2, e3⟩ := h
    subst e1
    have q := RPs.dp s xs vs e3 (by simpa [eqOk] using e)
    exact ⟨by simp only [toD]; exact .tup (.inl (.inl (s _ _ e2))) q.1, by simp only [toD, PyData.canLay0]; exact q.2⟩
  | .lst xs, v, h, e => by
    simp only [RP] at h
    obtain ⟨a, vs, e1, e2, e3⟩ := h
    subst e1
    have q := RPs.dp s xs vs e3 (by simpa [eqOk] using e)
    exact ⟨by simp only [toD]; exact .lst (.inl (.inl (s _ _ e2))) q.1, by simp only [toD, PyData.canLay0]; exact q.2⟩
  | .dk _, _, _, e => by simp [eqOk] at e
  | .dt _, _, _, e => by simp [eqOk] at e
  | .scr _, _, _, e => by simp [eqOk] at e
theorem RPs.dp (s : Sub F H) : ∀ (ps : List PV) (vs : List V), RPs K F ps vs → eqOks ps = true → DpAll K H vs (toDs ps) ∧ PyData.canLayAll0 (toDs ps) = true
  | [], vs, h, _ => by
    simp only [RPs] at h; subst h
    exact ⟨by simp only [toDs]; exact .nil, by simp [toDs, PyData.canLayAll0]⟩
  | x :: xs, vs, h, e => by
    simp only [RPs] at h
    obtain ⟨v, r, e1, e2, e3⟩ := h
    subst e1
    simp only [eqOks, Bool.and_eq_true] at e
    have q1 := RP.dp s x v e2 e.1
    have q2 := RPs.dp s xs r e3 e.2
    exact ⟨by simp only [toDs]; exact .cons q1.1 q2.1, by simp only [toDs, PyData.canLayAll0, q1.2, q2.2, Bool.and_self]⟩
end
theorem PK.dp (s : Sub F H) {p : PV} {v : V} (h : PK K F H p v) (e : eqOk p = true) : Dp K H v (toD p) ∧ (toD p).canLay0 = true := by
  cases p with
  | lst xs =>
    obtain ⟨a, vs, e1, e2, e3⟩ := h
    subst e1
    have q := RPs.dp s xs vs e3 (by simpa [eqOk] using e)
    exact ⟨by simp only [toD]; exact .lst (.inl (.inl e2)) q.1, by simp only [toD, PyData.canLay0]; exact q.2⟩
  | dk _ => simp [eqOk] at e
  | dt _ => simp [eqOk] at e
  | scr _ => simp [eqOk] at e
  | non => exact RP.dp s _ _ h e
  | bl _ => exact RP.dp s _ _ h e
  | int _ => exact RP.dp s _ _ h e
  | str _ => exact RP.dp s _ _ h e
  | tup _ => exact RP.dp s _ _ h e
end
mutual
theorem depth_toD : ∀ p : PV, (toD p).depth = dep p
  | .non => by simp [toD, PyData.depth, dep]
  | .bl b => by simp [toD, PyData.depth, dep]
  | .int i => by simp [toD, PyData.depth, dep]
  | .str s => by simp [toD, PyData.depth, dep]
  | .tup xs => by simp only [toD, PyData.depth, dep, depth_toDs xs]; omega
  | .lst xs => by simp only [toD, PyData.depth, dep, depth_toDs xs]; omega
  | .dk _ => by simp [toD, PyData.depth, dep]
  | .dt _ => by simp [toD, PyData.depth, dep]
  | .scr _ => by simp [toD, PyData.depth, dep]
theorem depth_toDs : ∀ ps : List PV, PyData.depthAll (toDs ps) = deps ps
  | [] => by simp [toDs, PyData.depthAll, deps]
  | x :: xs => by simp only [toDs, PyData.depthAll, deps, depth_toD x, depth_toDs xs]
end
theorem mkS_beq (a b : Sg) : (mkS a == mkS b) = (a == b) := by
  by_cases h : a = b
  · subst h; simp
  · have : mkS a ≠ mkS b := fun e => h (mkS_inj e)
    rw [beq_eq_false_iff_ne.mpr h, beq_eq_false_iff_ne.mpr this]
mutual
theorem eqv_toD : ∀ p q : PV, eqOk p = true → eqOk q = true → PyData.eqv (toD p) (toD q) = eqP p q
  | .non, q, _, h => by cases q <;> simp [eqOk] at h <;> simp [toD, PyData.eqv, eqP]
  | .bl b, q, _, h => by cases q <;> simp [eqOk] at h <;> simp [toD, PyData.eqv, eqP]
  | .int i, q, _, h => by cases q <;> simp [eqOk] at h <;> simp [toD, PyData.eqv, eqP]
  | .str s, q, _, h => by cases q <;> simp [eqOk] at h <;> simp [toD, PyData.eqv, eqP, mkS_beq]
  | .tup xs, q, h0, h => by
    cases q <;> simp [eqOk] at h <;> simp only [toD, PyData.eqv, eqP]
    exact eqv_toDs xs _ (by simpa [eqOk] using h0) h
  | .lst xs, q, h0, h => by
    cases q <;> simp [eqOk] at h <;> simp only [toD, PyData.eqv, eqP]
    exact eqv_toDs xs _ (by simpa [eqOk] using h0) h
  | .dk _, _, h, _ => by simp [eqOk] at h
  | .dt _, _, h, _ => by simp [eqOk] at h
  | .scr _, _, h, _ => by simp [eqOk] at h
theorem eqv_toDs : ∀ ps qs : List PV, eqOks ps = true → eqOks qs = true → PyData.eqvAll (toDs ps) (toDs qs) = eqPs ps qs
  | [], [], _, _ => by simp [toDs, PyData.eqvAll, eqPs]
  | [], _ :: _, _, _ => by simp [toDs, PyData.eqvAll, eqPs]
  | _ :: _, [], _, _ => by simp [toDs, PyData.eqvAll, eqPs]
  | x :: xs, y :: ys, h, h' => by
    simp only [eqOks, Bool.and_eq_true] at h h'
    simp only [toDs, PyData.eqvAll, eqPs, eqv_toD x y h.1 h'.1, eqv_toDs xs ys h.2 h'.2]
end

/-! ### the layer's rules, joined -/
section
variable {X : Cx}
abbrev room2 (X : Cx) : Prop := X.A.units + 600 < cLine
def rEqZ (K : PySem.W.Frag) (neg : Bool) : R2 := fun x y H Q => ∃ d e, Dp K H x d ∧ Dp K H y e ∧ d.canLay0 = true ∧ e.canLay0 = true ∧ min d.depth e.depth ≤ maxDep ∧ Q (.bl (neg ^^ PyData.eqv d e)) H
theorem op_eqZ (hu : room2 X) : OpR X (compareOp .Eq) (rEqZ X.K false) := by
  intro pins s σ H x y v u Q I rx ry h
  obtain ⟨d, e, hd, he, sd, se, hm, q⟩ := h
  obtain ⟨as, r1⟩ := Dp.reads I d x v hd rx
  obtain ⟨bs, r2⟩ := Dp.reads I e y u he ry
  have hu' : X.A.units + min d.depth e.depth < cLine := by
    have h1 : X.A.units + 600 < cLine := hu
    have h2 : maxDep = 500 := rfl
    omega
  exact SeqAt.compareEq_reads r1 r2 sd se hu' ⟨.bl _, H, I, by simp [L2.RelV], q⟩
theorem op_neZ (hu : room2 X) : OpR X (compareOp .NotEq) (rEqZ X.K true) := by
  intro pins s σ H x y v u Q I rx ry h
  obtain ⟨d, e, hd, he, sd, se, hm, q⟩ := h
  obtain ⟨as, r1⟩ := Dp.reads I d x v hd rx
  obtain ⟨bs, r2⟩ := Dp.reads I e y u he ry
  have hu' : X.A.units + min d.depth e.depth < cLine := by
    have h1 : X.A.units + 600 < cLine := hu
    have h2 : maxDep = 500 := rfl
    omega
  exact SeqAt.compareNe_reads r1 r2 sd se hu' ⟨.bl _, H, I, by simp [L2.RelV], q⟩
theorem op_inD (hu : room2 X) : OpR X (compareOp .In) (fun y x H Q => ∃ a o, x = .ref a ∧ DGet H a y o ∧ Q (.bl o.isSome) H) := by
  intro pins s σ H y x v u Q I ry rx h
  obtain ⟨a, o, ex, g, q⟩ := h
  subst ex
  obtain rfl : u = Value.ref a := rx
  exact d_in (by have h1 : X.A.units + 600 < cLine := hu; omega) I g ry fun s3 I3 => ⟨.bl o.isSome, H, I3, rfl, q⟩
theorem op_ninD (hu : room2 X) : OpR X (compareOp .NotIn) (fun y x H Q => ∃ a o, x = .ref a ∧ DGet H a y o ∧ Q (.bl (!o.isSome)) H) := by
  intro pins s σ H y x v u Q I ry rx h
  obtain ⟨a, o, ex, g, q⟩ := h
  subst ex
  obtain rfl : u = Value.ref a := rx
  exact d_notIn (by have h1 : X.A.units + 600 < cLine := hu; omega) I g ry fun s3 I3 => ⟨.bl (!o.isSome), H, I3, rfl, q⟩
theorem ix_dict (hu : room2 X) : IxR X (fun x y H Q => ∃ a v, x = .ref a ∧ DGet H a y (some v) ∧ Q v H) := by
  intro value slice pins s σ H x y v u Q I rx ry h hs
  obtain ⟨a, z, ex, g, q⟩ := h
  subst ex
  obtain rfl : v = Value.ref a := rx
  have hT := dict_typeIs I g
  have h₂ : wpAny (model X.prog X.w) X.A (getItem (.ref a) u) (EP X pins σ Q) X.xe s := d_getItem (by have h1 : X.A.units + 600 < cLine := hu; omega) I g ry fun w' s3 I3 rw' => ⟨z, H, I3, rw', q⟩
  unfold subscriptTail
  refine wpAny_bind ?_
  rw [getitemInPython_of_ne hT.not_modules]
  refine wpAny_bind (wpAny_specialOf hT PySem.F.slot_dict_getitem.lookup ?_)
  have fin : wpAny (model X.prog X.w) X.A (subscripted slice false (.ref a) u) (fun r s₃ => wpAny (model X.prog X.w) X.A (letTemporaryGo value (.ref a) r >>= fun _ => pure r) (EP X pins σ Q) X.xe s₃) X.xe s := by
    rw [hs]
    exact wpAny_operating (wpAny_mono h₂ (fun r s₃ h₃ => wpAny_bind (wpAny_letTemporaryGo (wpAny_pure h₃))) fun _ _ x => x)
  first
    | exact wpAny_pure (wpAny_bind fin)
    | exact wpAny_bind (wpAny_pure (wpAny_bind fin))
    | exact wpAny_bind fin
def rIxD : R2 := fun x y H Q => ∃ a v, x = .ref a ∧ DGet H a y (some v) ∧ Q v H
def rIxZ (K : PySem.W.Frag) : R2 := fun x y H Q => rIxL K x y H Q ∨ rIxT K x y H Q ∨ rIxS x y H Q ∨ rIxD x y H Q
theorem ix_Z (hu : room2 X) : IxR X (rIxZ X.K) := ix_list.or (ix_tup.or (ix_str.or (ix_dict hu)))

section
open PySem.P
variable {X : Cx}
/-- a text, so many times -/
def repS (z : Str) (n : Int) : Str := ⟨((List.replicate n.toNat z.cps.toList).flatten).toArray⟩
theorem foldl_cps (n : Nat) (a b : Array Nat) : ((List.replicate n a).foldl (· ++ ·) b).toList = b.toList ++ (List.replicate n a.toList).flatten := by
  induction n generalizing b with
  | zero => simp
  | succ n ih =>
    rw [List.replicate_succ, List.foldl_cons, ih, List.replicate_succ, List.flatten_cons, Array.toList_append, List.append_assoc]
def rStrRep : R2 := fun x y H Q => ∃ (z : Str) (n : Int), x = .str z ∧ y = .int n ∧ -(2 ^ 30) < n ∧ n < 2 ^ 30 ∧ z.length * n.toNat ≤ sizeLine ∧ z.length ≤ sizeLine ∧ Q (.str (repS z n)) H
theorem op_rep_str : OpR X (binaryOp .Mult) rStrRep := by
  intro pins s σ H x y v u Q I rx ry h
  obtain ⟨z, n, rfl, rfl, h0, h1, hz, hz1, q⟩ := h
  obtain ⟨t, rfl⟩ := rx
  obtain ⟨t', rfl⟩ := ry
  have hline : sizeLine = 16777216 := rfl
  have b1 : decide (n < -(2 ^ 63 : Int)) = false := decide_eq_false (by omega)
  have b2 : decide (n ≥ (2 ^ 63 : Int)) = false := decide_eq_false (by omega)
  refine PySem.P.mul_str (by rw [b1, b2]; rfl) (fun hn _ => ?_) (fun hn _ => ?_) ?_
  · have hn' : 0 < n := by omega
    have : (2 : Int) ^ 32 ≤ (2 ^ 63 - 1) / n := by
      rw [Int.le_ediv_iff_mul_le hn']
      have : (2 : Int) ^ 32 * n ≤ 2 ^ 32 * 2 ^ 30 := Int.mul_le_mul_of_nonneg_left (by omega) (by decide)
      omega
    omega
  · unfold Builtin.Str.tooLong
    exact decide_eq_false (by omega)
  · have hr : (repS z n).length ≤ sizeLine := by
      show ((List.replicate n.toNat z.cps.toList).flatten).toArray.size ≤ _
      rw [List.size_toArray, List.length_flatten, List.map_replicate, List.sum_replicate_nat, Nat.mul_comm, Array.length_toList]
      exact hz
    by_cases hn : n < 1
    · rw [if_pos hn]
      have e : repS z n = Str.empty := by
        unfold repS
        rw [show n.toNat = 0 by omega]; rfl
      rw [e] at q hr
      exact ⟨hr, .str _, H, I.tok _, ⟨_, rfl⟩, q⟩
    · rw [if_neg hn]
      by_cases h2 : (n == 1 || z.length == 0) = true
      · rw [if_pos h2]
        have e : repS z n = z := by
          unfold repS
          simp only [Bool.or_eq_true, beq_iff_eq] at h2
          rcases h2 with h2 | h2
          · subst h2
            simp
          · have hc : z.cps = #[] := Array.eq_empty_of_size_eq_zero h2
            obtain ⟨c⟩ := z
            simp only at hc
            subst hc
            simp
        rw [e] at q
        exact ⟨.str z, H, I, ⟨t, rfl⟩, q⟩
      · rw [if_neg h2]
        have e : (⟨(List.replicate n.toNat z.cps).foldl (· ++ ·) #[]⟩ : Str) = repS z n := by
          unfold repS
          congr 1
          apply Array.toList_inj.mp
          rw [foldl_cps]
          simp
        rw [e]
        exact ⟨hr, .str _, H, I.tok _, ⟨_, rfl⟩, q⟩
/-! ### a short text turned round -/
def revS (z : Str) : Str := ⟨z.cps.toList.reverse.toArray⟩
def tRevS (te : TE) : TE := fun σ H Q => te σ H fun x H1 => ∃ z : Str, x = .str z ∧ z.length ≤ 2 ∧ Q (.str (revS z)) H1
theorem rev_two (z : Str) (h : z.length ≤ 2) : (⟨((Builtin.Str.strSliceIndices none none (-1) z.length).filterMap (z.cps[·]?)).toArray⟩ : Str) = revS z := by
  obtain ⟨⟨l⟩⟩ := z
  have h' : l.length ≤ 2 := h
  match l, h' with
  | [], _ => rfl
  | [a], _ =>
    have e : Builtin.Str.strSliceIndices none none (-1) 1 = [0] := by decide +kernel
    show (⟨((Builtin.Str.strSliceIndices none none (-1) 1).filterMap _).toArray⟩ : Str) = _
    rw [e]; rfl
  | [a, b], _ =>
    have e : Builtin.Str.strSliceIndices none none (-1) 2 = [1, 0] := by decide +kernel
    show (⟨((Builtin.Str.strSliceIndices none none (-1) 2).filterMap _).toArray⟩ : Str) = _
    rw [e]; rfl
theorem pe_revS {e : Expr} {te : TE} {k : Nat} {p1 p2 p3 pos : Pos} (he : PE X e te) : PE X (.Subscript e (.Slice none none (some (.UnaryOp .USub (.Constant (.int 1) k p1) p2)) p3) pos) (tRevS te) := by
  refine ⟨fun pins s σ H Q I h => ?_⟩
  refine Subscript_ (thn (he.run pins s σ H _ I h) fun v s1 ⟨x, H1, I1, r1, q1⟩ => ?_)
  obtain ⟨z, rfl, hz, q⟩ := q1
  obtain ⟨t, rfl⟩ := r1
  have hst : PO X (some (.UnaryOp .USub (.Constant (.int 1) k p1) p2)) (tPart (tUn (rU fun i => .int (-i)) (tC (.int 1)))) := po_some (pe_un un_neg pe_int)
  refine wpAny_Slice (thn (po_none.run pins s1 σ H1 (fun o H2 => o = none ∧ H2 = H1) I1 ⟨rfl, rfl⟩) fun vl s2 ⟨l, H2, I2, pl, el, e2⟩ => ?_)
  subst el e2
  refine thn (po_none.run pins s2 σ H2 (fun o H3 => o = none ∧ H3 = H2) I2 ⟨rfl, rfl⟩) fun vu s3 ⟨u, H3, I3, pu, eu, e3⟩ => ?_
  subst eu e3
  refine thn (hst.run pins s3 σ H3 (fun o H4 => o = some (-1) ∧ H4 = H3) I3 ⟨1, rfl, -1, rfl, rfl, rfl⟩) fun vs s4 ⟨o, H4, I4, ps, eo, e4⟩ => ?_
  subst eo e4
  have I5 : Inv X pins σ H4 { s4 with heap := s4.heap.push { cls := .type "slice", data := .fields #[vl, vu, vs] } } := I4.kept (t' := s4.toks) fun b ob q => Heap.get?_push_of_some _ q
  obtain ⟨l', rfl, el1⟩ := IsPart.raw pl
  obtain ⟨u', rfl, eu1⟩ := IsPart.raw pu
  obtain ⟨s', rfl, es1⟩ := IsPart.raw ps
  show wpAny (model X.prog X.w) X.A (subscriptTail e (.Slice none none (some (.UnaryOp .USub (.Constant (.int 1) k p1) p2)) p3) (.str z t) (.ref s4.heap.objs.size)) (EP X pins σ Q) X.xe { s4 with heap := s4.heap.push { cls := .type "slice", data := .fields #[partValue l', partValue u', partValue s'] } }
  refine tail_any (ops := [.str z t, .ref s4.heap.objs.size]) (T := "str") (typeIs_str _ _ _) F.slot_str_getitem.lookup ?_ (by with_unfolding_all rfl)
  refine wpAny_getItem_str_slice (l := l') (u := u') (st := s') ⟨_, Heap.get?_push_size _ rfl, rfl, rfl⟩ (by rw [es1]; decide) ?_
  show Made.post (if (((s'.map (·.1)).getD 1 == 1 && (Builtin.Str.strSliceIndices (l'.map (·.1)) (u'.map (·.1)) ((s'.map (·.1)).getD 1) z.length).length == z.length) = true) then Made.val (.str z t)
    else Made.str ⟨((Builtin.Str.strSliceIndices (l'.map (·.1)) (u'.map (·.1)) ((s'.map (·.1)).getD 1) z.length).filterMap (z.cps[·]?)).toArray⟩) (EP X pins σ Q) _
  rw [es1, el1, eu1]
  rw [if_neg (by simp)]
  have er := rev_two z hz
  show Made.post (Made.str ⟨((Builtin.Str.strSliceIndices none none (-1) z.length).filterMap (z.cps[·]?)).toArray⟩) (EP X pins σ Q) _
  rw [er]
  have hl : (revS z).length ≤ sizeLine := by
    have hline : sizeLine = 16777216 := rfl
    show ((z.cps.toList.reverse).toArray).size ≤ _
    rw [List.size_toArray, List.length_reverse, Array.length_toList]
    have : z.cps.size ≤ 2 := hz
    omega
  exact ⟨hl, .str _, H4, I5.tok _, ⟨_, rfl⟩, q⟩
end
def rStrCat : R2 := fun x y H Q => ∃ i j, x = .str i ∧ y = .str j ∧ i.length + j.length ≤ sizeLine ∧ Q (.str (i ++ j)) H
def opB : BO → Operator
  | .add => .Add | .sub => .Sub | .mul => .Mult | .fdiv => .FloorDiv | .mod => .Mod | .pow => .Pow
def rBin : BO → R2
  | .add => fun x y H Q => rI0 (fun i j => .int (i + j)) x y H Q ∨ rStrCat x y H Q ∨ rCat x y H Q
  | .sub => rI0 fun i j => .int (i - j)
  | .mul => fun x y H Q => rI CMul (fun i j => .int (i * j)) x y H Q ∨ rStrRep x y H Q
  | .fdiv => rI CDiv fun i j => .int (i / j)
  | .mod => rI (fun _ j => 0 < j) fun i j => .int (i % j)
  | .pow => rI CPow fun i j => .int (i ^ j.toNat)
theorem op_bin : ∀ b : BO, OpR X (binaryOp (opB b)) (rBin b)
  | .add => op_add.or (op_add_str.or op_cat)
  | .sub => op_sub
  | .mul => op_mul.or op_rep_str
  | .fdiv => op_fdiv
  | .mod => op_mod
  | .pow => op_pow
def rAug : BO → R2
  | .add => fun x y H Q => rI0 (fun i j => .int (i + j)) x y H Q ∨ rStrCat x y H Q
  | .sub => rI0 fun i j => .int (i - j)
  | .mul => rI CMul fun i j => .int (i * j)
  | .fdiv => rI CDiv fun i j => .int (i / j)
  | .mod => rI (fun _ j => 0 < j) fun i j => .int (i % j)
  | .pow => fun _ _ _ _ => False
theorem op_aug : ∀ b : BO, OpR X (inplaceOp (opB b)) (rAug b)
  | .add => iop_add.or iop_add_str
  | .sub => iop_sub
  | .mul => iop_mul
  | .fdiv => iop_fdiv
  | .mod => iop_mod
  | .pow => fun _ _ _ _ _ _ _ _ _ _ _ _ h => h.elim
def opC : CO → CmpOp
  | .eq => .Eq | .ne => .NotEq | .lt => .Lt | .le => .LtE | .gt => .Gt | .ge => .GtE | .in_ => .In | .nin => .NotIn
/-- one sign in a text -/
def rSgn (pos : Bool) : R2 := fun x y H Q => ∃ (c : Nat) (z : Str), x = .str ⟨#[c]⟩ ∧ y = .str z ∧ Q (.bl (decide (c ∈ z.cps.toList) == pos)) H
theorem op_inSgn : OpR X (compareOp .In) (rSgn true) := by
  intro pins s σ H x y u v Q I ru rv ⟨c, z, ex, ey, q⟩
  exact op_in_sign pins s σ H x y u v Q I ru rv ⟨c, z, ex, ey, by simpa using q⟩
theorem op_ninSgn : OpR X (compareOp .NotIn) (rSgn false) := by
  intro pins s σ H x y u v Q I ru rv ⟨c, z, ex, ey, q⟩
  exact op_notIn_sign pins s σ H x y u v Q I ru rv ⟨c, z, ex, ey, by simpa using q⟩
def rCmp (K : PySem.W.Frag) : CO → R2
  | .eq => rEqZ K false
  | .ne => rEqZ K true
  | .lt => rI0 fun i j => .bl (decide (i < j))
  | .le => rI0 fun i j => .bl (decide (i ≤ j))
  | .gt => rI0 fun i j => .bl (decide (j < i))
  | .ge => rI0 fun i j => .bl (decide (j ≤ i))
  | .in_ => fun x y H Q => rIn K false x y H Q ∨ (∃ a o, y = .ref a ∧ DGet H a x o ∧ Q (.bl o.isSome) H) ∨ rSgn true x y H Q
  | .nin => fun x y H Q => rIn K true x y H Q ∨ (∃ a o, y = .ref a ∧ DGet H a x o ∧ Q (.bl (!o.isSome)) H) ∨ rSgn false x y H Q
theorem op_cmp (hu : room2 X) : ∀ c : CO, OpR X (compareOp (opC c)) (rCmp X.K c)
  | .eq => op_eqZ hu
  | .ne => op_neZ hu
  | .lt => op_lt
  | .le => op_le
  | .gt => op_gt
  | .ge => op_ge
  | .in_ => op_in_seq.or ((op_inD hu).or op_inSgn)
  | .nin => op_notIn_seq.or ((op_ninD hu).or op_ninSgn)
end
end Z
end

section
/-! ZH: the readings of operators, subscripts, truth. -/
namespace Z
open PySem PySem.Spec PyProof.Rows L2
section
variable {M : Nm} {K : PySem.W.Frag} {W : WX} {σ : L2.St} {F F' H H' : Hp} {ρ ρ' : List Addr} {st : Store}
theorem PK.int {i : Int} {v : V} (h : PK K F H (.int i) v) : v = .int i := by
  have h' : RP K F (.int i) v := h
  simpa only [RP] using h'
theorem PK.str {s : Sg} {v : V} (h : PK K F H (.str s) v) : v = .str (mkS s) ∧ okS s = true := by
  have h' : RP K F (.str s) v := h
  simpa only [RP] using h'
theorem okS_append {a b : Sg} (h : okS a = true) (h' : okS b = true) : okS (a ++ b) = true := by
  simp only [okS, List.all_append, Bool.and_eq_true] at *
  exact ⟨h, h'⟩
theorem mkS_append (a b : Sg) : mkS (a ++ b) = mkS a ++ mkS b := by
  show (⟨(a ++ b).toArray⟩ : Str) = ⟨a.toArray ++ b.toArray⟩
  rw [List.append_toArray]
theorem mulOk_ok {i j : Int} (h : mulOk i j = true) : CMul i j := by
  simp only [mulOk, Bool.or_eq_true, Bool.and_eq_true, decide_eq_true_eq] at h
  exact h
theorem divOk_ok {i j : Int} (h : divOk j = true) : CDiv i j := by
  simp only [divOk, Bool.and_eq_true, decide_eq_true_eq] at h
  exact h
theorem powOk_ok {i j : Int} (h : powOk i j = true) : CPow i j := by
  simp only [powOk, Bool.and_eq_true, decide_eq_true_eq] at h
  exact ⟨h.1.1, h.1.2, h.2⟩
/-- a tree comes, made in a new object -/
theorem PostE.made {Q : VK} {p : PV} {o : HO} {a : Addr} (q : PostE M K W σ F ρ H Q (.ok (.pv p) st)) (hh : HR' M K F ρ H st) (na : H a = none) (r : RP K (upd F a o) p (.ref a)) : Q (.ref a) (upd H a o) := by
  obtain ⟨g, h⟩ := hh.new na o
  exact q _ _ _ _ g h (by simp only [RL]; exact r)
theorem rd_binP {op : BO} {p q z : PV} {v w : V} {Q : VK} (hh : HR' M K F ρ H st) (hp : PK K F H p v) (hq : PK K F H q w) (e : doBin op p q = some z) (post : PostE M K W σ F ρ H Q (.ok (.pv z) st)) : rBin op v w H Q := by
  cases op <;> cases p <;> simp only [doBin, reduceCtorEq] at e <;> cases q <;> simp only [doBin, Option.some.injEq, reduceCtorEq] at e
  case add.int.int i j =>
    subst e
    exact .inl ⟨i, j, hp.int, hq.int, post.tree hh (by simp only [RP])⟩
  case add.str.str x y =>
    split at e
    · rename_i hl
      simp only [Option.some.injEq] at e
      subst e
      refine .inr (.inl ⟨mkS x, mkS y, hp.str.1, hq.str.1, by rw [mkS_len, mkS_len, line_eq]; exact hl, post.tree hh ?_⟩)
      simp only [RP]
      exact ⟨by rw [mkS_append], okS_append hp.str.2 hq.str.2⟩
    · cases e
  case add.lst.lst xs ys =>
    split at e
    · rename_i hl
      simp only [Option.some.injEq] at e
      subst e
      obtain ⟨a, vs, ea, ha, ra⟩ := hp
      obtain ⟨b, ws, eb, hb, rb⟩ := hq
      refine .inr (.inr ⟨a, b, vs, ws, ea, eb, ha, hb, by rw [← ra.length, ← rb.length, line_eq]; exact hl, fun p np => ?_⟩)
      refine post.made hh np ?_
      simp only [RP]
      exact ⟨p, vs ++ ws, rfl, upd_same, RPs.mono (sub_upd (hh.fresh np)) _ _ (ra.append rb)⟩
    · cases e
  case sub.int.int i j =>
    subst e
    exact ⟨i, j, hp.int, hq.int, post.tree hh (by simp only [RP])⟩
  case mul.int.int i j =>
    split at e
    · rename_i hl
      simp only [Option.some.injEq] at e
      subst e
      exact .inl ⟨i, j, hp.int, hq.int, mulOk_ok hl, post.tree hh (by simp only [RP])⟩
    · cases e
  case mul.str.int x k =>
    split at e
    · rename_i hl
      obtain ⟨h1, h2, h3, h4⟩ := hl
      simp only [Option.some.injEq] at e
      subst e
      refine .inr ⟨mkS x, k, hp.str.1, hq.int, h1, h2, by rw [mkS_len, line_eq]; exact h3, by rw [mkS_len, line_eq]; exact h4, post.tree hh ?_⟩
      simp only [RP]
      refine ⟨by unfold repS mkS; simp, ?_⟩
      have hx := hp.str.2
      simp only [okS, List.all_eq_true, List.mem_flatten, List.mem_replicate] at hx ⊢
      rintro c ⟨l, ⟨_, rfl⟩, hc⟩
      exact hx c hc
    · cases e
  case fdiv.int.int i j =>
    split at e
    · rename_i hl
      simp only [Option.some.injEq] at e
      subst e
      exact ⟨i, j, hp.int, hq.int, divOk_ok hl, post.tree hh (by simp only [RP])⟩
    · cases e
  case mod.int.int i j =>
    split at e
    · rename_i hl
      simp only [Option.some.injEq] at e
      subst e
      exact ⟨i, j, hp.int, hq.int, hl, post.tree hh (by simp only [RP])⟩
    · cases e
  case pow.int.int i j =>
    split at e
    · rename_i hl
      simp only [Option.some.injEq] at e
      subst e
      exact ⟨i, j, hp.int, hq.int, powOk_ok hl, post.tree hh (by simp only [RP])⟩
    · cases e
theorem rd_bin (op : BO) : RdV2 M K W (rBin op) (bin op) := by
  intro σ H Q F ρ st x y v w res hh rx ry e p
  unfold bin at e
  cases ex : peek st x with
  | none => simp [ex] at e
  | some a =>
    cases ey : peek st y with
    | none => simp [ex, ey] at e
    | some b =>
      simp only [ex, ey] at e
      cases eb : doBin op a b with
      | none => simp [eb, okP] at e
      | some z =>
        simp only [eb, okP, Option.some.injEq] at e
        subst e
        exact rd_binP hh (peek_ok hh rx ex) (peek_ok hh ry ey) eb p

/-! ### flat things -/
theorem flat_ok {p : PV} {v : V} (f : flat p = true) (h : PK K F H p v) : flatV v = true := by
  cases p <;> simp [flat] at f <;> (simp only [PK, RP] at h) <;> first | (subst h; rfl) | (obtain ⟨h, _⟩ := h; subst h; rfl)
theorem flat_eq {p q : PV} {v w : V} (f : flat p = true) (f' : flat q = true) (h : PK K F H p v) (h' : PK K F H q w) : eqV v w = eqP p q := by
  cases p <;> simp [flat] at f <;> cases q <;> simp [flat] at f' <;> simp only [PK, RP] at h h' <;>
    first
      | (subst h h'; simp [eqV, eqP])
      | (obtain ⟨h, _⟩ := h; obtain ⟨h', _⟩ := h'; subst h h'; simp [eqV, eqP, mkS_beq])
      | (obtain ⟨h, _⟩ := h; subst h h'; simp [eqV, eqP])
      | (obtain ⟨h', _⟩ := h'; subst h h'; simp [eqV, eqP])
theorem flats_ok : ∀ {ps : List PV} {vs : List V}, (ps.all flat) = true → RPs K F ps vs → vs.all flatV = true
  | [], vs, _, h => by simp only [RPs] at h; subst h; rfl
  | x :: xs, vs, f, h => by
    simp only [RPs] at h
    obtain ⟨v, r, e1, e2, e3⟩ := h
    subst e1
    simp only [List.all_cons, Bool.and_eq_true] at f ⊢
    exact ⟨flat_ok (H := F) f.1 (PK.of (Sub.refl F) e2), flats_ok f.2 e3⟩
theorem inV_ok {x : PV} {v : V} (fx : flat x = true) (hx : PK K F H x v) (s : Sub F H) : ∀ {ps : List PV} {vs : List V}, (ps.all flat) = true → RPs K F ps vs → inV v vs = ps.any fun y => eqP y x
  | [], vs, _, h => by simp only [RPs] at h; subst h; rfl
  | y :: xs, vs, f, h => by
    simp only [RPs] at h
    obtain ⟨w, r, e1, e2, e3⟩ := h
    subst e1
    simp only [List.all_cons, Bool.and_eq_true] at f
    have ih := inV_ok fx hx s f.2 e3
    unfold inV at ih ⊢
    rw [List.any_cons, List.any_cons, ih, flat_eq f.1 fx (PK.of s e2) hx]
theorem RPs.any_sq (s : Sub F H) {p : PV} {v : V} {xs : List PV} (hp : p = .lst xs ∨ p = .tup xs) (h : PK K F H p v) : ∃ a vs, v = .ref a ∧ (SqL K H a vs ∨ SqT K H a vs) ∧ RPs K F xs vs := by
  rcases hp with e | e
  · subst e
    obtain ⟨a, vs, e1, e2, e3⟩ := h
    exact ⟨a, vs, e1, .inl (.inl (.inl e2)), e3⟩
  · subst e
    simp only [PK, RP] at h
    obtain ⟨a, vs, e1, e2, e3⟩ := h
    exact ⟨a, vs, e1, .inr (.inl (.inl (s _ _ e2))), e3⟩

/-! ### keys -/
theorem kV_of {p : PV} {k : Ky} {v : V} (e : keyK p = some k) (h : PK K F H p v) : v = kV (kyS k) ∧ okK k = true := by
  cases p <;> simp [keyK] at e
  · subst e
    exact ⟨h.int, rfl⟩
  · subst e
    exact ⟨h.str.1, h.str.2⟩
theorem kVs_of : ∀ {ps : List PV} {ks : List Ky} {vs : List V}, keyKs ps = some ks → RPs K F ps vs → vs = (ks.map kyS).map kV ∧ ks.all okK = true
  | [], ks, vs, e, h => by
    simp [keyKs] at e; subst e
    simp only [RPs] at h; subst h
    exact ⟨rfl, rfl⟩
  | x :: xs, ks, vs, e, h => by
    simp only [RPs] at h
    obtain ⟨v, r, e1, e2, e3⟩ := h
    subst e1
    unfold keyKs at e
    cases q : keyK x with
    | none => simp [q] at e
    | some k =>
      simp only [q, Option.map_eq_some_iff] at e
      obtain ⟨ks', e4, e5⟩ := e
      subst e5
      obtain ⟨h1, h2⟩ := kV_of (H := F) q (PK.of (Sub.refl F) e2)
      obtain ⟨h3, h4⟩ := kVs_of e4 e3
      exact ⟨by rw [h1, h3]; rfl, by simp [h2, h4]⟩
theorem valV_k : ∀ {kvs : List (Ky × PV)} {ks : List (Key × V)} (k : Ky), RPk K F kvs ks → (look k kvs = none ∧ valV ks (kyS k) = none) ∨ ∃ p v, look k kvs = some p ∧ valV ks (kyS k) = some v ∧ RP K F p v
  | [], ks, k, h => by simp only [RPk] at h; subst h; exact .inl ⟨rfl, rfl⟩
  | (j, p) :: r, ks, k, h => by
    simp only [RPk] at h
    obtain ⟨v, s, e1, e2, e3, e4⟩ := h
    subst e1
    by_cases hj : j = k
    · subst hj
      exact .inr ⟨p, v, by simp [look], valV_pos rfl, e3⟩
    · have hn : ¬ kyS j = kyS k := fun e => hj (kyS_inj e)
      rw [valV_neg (p := (kyS j, v)) hn]
      simp only [look, if_neg hj]
      exact valV_k k e4
theorem valV_t : ∀ {kvs : List (List Ky × PV)} {ks : List (List Key × V)} (k : List Ky), RPt K F kvs ks → (look k kvs = none ∧ valV ks (k.map kyS) = none) ∨ ∃ p v, look k kvs = some p ∧ valV ks (k.map kyS) = some v ∧ RP K F p v
  | [], ks, k, h => by simp only [RPt] at h; subst h; exact .inl ⟨rfl, rfl⟩
  | (j, p) :: r, ks, k, h => by
    simp only [RPt] at h
    obtain ⟨v, s, e1, e2, e3, e4⟩ := h
    subst e1
    by_cases hj : j = k
    · subst hj
      exact .inr ⟨p, v, by simp [look], valV_pos rfl, e3⟩
    · have hn : ¬ j.map kyS = k.map kyS := fun e => hj (kySs_inj e)
      rw [valV_neg (p := (j.map kyS, v)) hn]
      simp only [look, if_neg hj]
      exact valV_t k e4
theorem valV_kL : ∀ {kvs : List (Ky × LV)} {ks : List (Key × V)} (k : Ky), RLk K F ρ kvs ks → (look k kvs = none ∧ valV ks (kyS k) = none) ∨ ∃ p v, look k kvs = some p ∧ valV ks (kyS k) = some v ∧ RL K F ρ p v
  | [], ks, k, h => by simp only [RLk] at h; subst h; exact .inl ⟨rfl, rfl⟩
  | (j, p) :: r, ks, k, h => by
    simp only [RLk] at h
    obtain ⟨v, s, e1, e2, e3, e4⟩ := h
    subst e1
    by_cases hj : j = k
    · subst hj
      exact .inr ⟨p, v, by simp [look], valV_pos rfl, e3⟩
    · have hn : ¬ kyS j = kyS k := fun e => hj (kyS_inj e)
      rw [valV_neg (p := (kyS j, v)) hn]
      simp only [look, if_neg hj]
      exact valV_kL k e4
theorem valV_tL : ∀ {kvs : List (List Ky × LV)} {ks : List (List Key × V)} (k : List Ky), RLt K F ρ kvs ks → (look k kvs = none ∧ valV ks (k.map kyS) = none) ∨ ∃ p v, look k kvs = some p ∧ valV ks (k.map kyS) = some v ∧ RL K F ρ p v
  | [], ks, k, h => by simp only [RLt] at h; subst h; exact .inl ⟨rfl, rfl⟩
  | (j, p) :: r, ks, k, h => by
    simp only [RLt] at h
    obtain ⟨v, s, e1, e2, e3, e4⟩ := h
    subst e1
    by_cases hj : j = k
    · subst hj
      exact .inr ⟨p, v, by simp [look], valV_pos rfl, e3⟩
    · have hn : ¬ j.map kyS = k.map kyS := fun e => hj (kySs_inj e)
      rw [valV_neg (p := (j.map kyS, v)) hn]
      simp only [look, if_neg hj]
      exact valV_tL k e4
/-- the key of a dict of tuples lies as a tracked tuple -/
theorem kT_of (s : Sub F H) {p : PV} {k : List Ky} {v : V} (e : keyT p = some k) (h : PK K F H p v) : ∃ b, v = .ref b ∧ H b = some (.tup ((k.map kyS).map kV)) := by
  cases p <;> simp [keyT] at e
  rename_i xs
  simp only [PK, RP] at h
  obtain ⟨a, vs, e1, e2, e3⟩ := h
  obtain ⟨h1, _⟩ := kVs_of e e3
  exact ⟨a, e1, by rw [← h1]; exact s _ _ e2⟩
theorem kT_ok {p : PV} {k : List Ky} {v : V} (e : keyT p = some k) (h : PK K F H p v) : k.all okK = true := by
  cases p <;> simp [keyT] at e
  simp only [PK, RP] at h
  obtain ⟨a, vs, e1, e2, e3⟩ := h
  exact (kVs_of e e3).2
theorem look_isSome {κ α : Type} [DecidableEq κ] (k : κ) (kvs : List (κ × α)) : has k kvs = (look k kvs).isSome := rfl
theorem dget_k {kvs : List (Ky × PV)} {q : PV} {k : Ky} {v w : V} (hp : PK K F H (.dk kvs) v) (hq : PK K F H q w) (e : keyK q = some k) :
    ∃ a, v = .ref a ∧ ((look k kvs = none ∧ DGet H a w none) ∨ ∃ p z, look k kvs = some p ∧ DGet H a w (some z) ∧ RP K F p z) := by
  obtain ⟨a, ks, e1, e2, e3⟩ := hp
  obtain ⟨h1, _⟩ := kV_of e hq
  subst h1
  refine ⟨a, e1, ?_⟩
  have d := DGet.k (k := kyS k) e2
  rcases valV_k k e3 with ⟨l1, l2⟩ | ⟨p, z, l1, l2, l3⟩
  · rw [l2] at d; exact .inl ⟨l1, d⟩
  · rw [l2] at d; exact .inr ⟨p, z, l1, d, l3⟩
theorem dget_t (s : Sub F H) {kvs : List (List Ky × PV)} {q : PV} {k : List Ky} {v w : V} (hp : PK K F H (.dt kvs) v) (hq : PK K F H q w) (e : keyT q = some k) :
    ∃ a, v = .ref a ∧ ((look k kvs = none ∧ DGet H a w none) ∨ ∃ p z, look k kvs = some p ∧ DGet H a w (some z) ∧ RP K F p z) := by
  obtain ⟨a, ks, e1, e2, e3⟩ := hp
  obtain ⟨b, h1, h2⟩ := kT_of s e hq
  subst h1
  refine ⟨a, e1, ?_⟩
  have d := DGet.t e2 h2
  rcases valV_t k e3 with ⟨l1, l2⟩ | ⟨p, z, l1, l2, l3⟩
  · rw [l2] at d; exact .inl ⟨l1, d⟩
  · rw [l2] at d; exact .inr ⟨p, z, l1, d, l3⟩
theorem rd_eq {neg : Bool} {p q : PV} {c : Bool} {v w : V} {Q : VK} (hh : HR' M K F ρ H st) (hp : PK K F H p v) (hq : PK K F H q w) (e : opEq p q = some c) (post : PostE M K W σ F ρ H Q (.ok (.pv (.bl (neg ^^ c))) st)) : rEqZ K neg v w H Q := by
  unfold opEq at e
  split at e
  · rename_i hc
    simp only [Option.some.injEq] at e
    simp only [Bool.and_eq_true, decide_eq_true_eq] at hc
    obtain ⟨d1, c1⟩ := hp.dp hh.sub hc.1.1
    obtain ⟨d2, c2⟩ := hq.dp hh.sub hc.1.2
    refine ⟨_, _, d1, d2, c1, c2, by rw [depth_toD, depth_toD]; exact hc.2, ?_⟩
    rw [eqv_toD p q hc.1.1 hc.1.2, e]
    exact post.tree hh (by simp only [RP])
  · cases e
theorem rd_in {neg : Bool} {x : PV} {xs : List PV} {c : Bool} {p : PV} {v w : V} {Q : VK} (hh : HR' M K F ρ H st) (hx : PK K F H x v) (hp : p = .lst xs ∨ p = .tup xs) (hq : PK K F H p w) (e : inFlat x xs = some c)
    (post : PostE M K W σ F ρ H Q (.ok (.pv (.bl (if neg then !c else c))) st)) : rIn K neg v w H Q := by
  unfold inFlat at e
  split at e
  · rename_i hc
    simp only [Option.some.injEq] at e
    simp only [Bool.and_eq_true] at hc
    obtain ⟨a, vs, e1, e2, e3⟩ := RPs.any_sq hh.sub hp hq
    refine ⟨a, vs, e1, e2, flat_ok hc.1 hx, flats_ok hc.2 e3, ?_⟩
    rw [inV_ok hc.1 hx hh.sub hc.2 e3, e]
    exact post.tree hh (by simp only [RP])
  · cases e
theorem rd_sgn (pos : Bool) {x y : Sg} {c : Bool} {v w : V} {Q : VK} (hh : HR' M K F ρ H st) (hx : PK K F H (.str x) v) (hy : PK K F H (.str y) w) (e : inText x y = some c) (post : PostE M K W σ F ρ H Q (.ok (.pv (.bl (c == pos))) st)) : rSgn pos v w H Q := by
  unfold inText at e
  split at e
  · rename_i d
    simp only [Option.some.injEq] at e
    subst e
    refine ⟨d, mkS y, hx.str.1, hy.str.1, ?_⟩
    rw [mkS_cps]
    exact post.tree hh (by simp only [RP])
  · cases e
theorem rd_cmpP {op : CO} {p q : PV} {c : Bool} {v w : V} {Q : VK} (hh : HR' M K F ρ H st) (hp : PK K F H p v) (hq : PK K F H q w) (e : doCmp op p q = some c) (post : PostE M K W σ F ρ H Q (.ok (.pv (.bl c)) st)) : rCmp K op v w H Q := by
  cases op
  case eq => exact rd_eq (neg := false) hh hp hq (by simpa [doCmp] using e) (by simpa using post)
  case ne =>
    simp only [doCmp, Option.map_eq_some_iff] at e
    obtain ⟨d, e1, e2⟩ := e
    exact rd_eq (neg := true) hh hp hq e1 (by rw [Bool.true_xor, e2]; exact post)
  case lt =>
    cases p <;> cases q <;> simp only [doCmp, Option.some.injEq, reduceCtorEq] at e
    subst e
    exact ⟨_, _, hp.int, hq.int, post.tree hh (by simp only [RP])⟩
  case le =>
    cases p <;> cases q <;> simp only [doCmp, Option.some.injEq, reduceCtorEq] at e
    subst e
    exact ⟨_, _, hp.int, hq.int, post.tree hh (by simp only [RP])⟩
  case gt =>
    cases p <;> cases q <;> simp only [doCmp, Option.some.injEq, reduceCtorEq] at e
    subst e
    exact ⟨_, _, hp.int, hq.int, post.tree hh (by simp only [RP])⟩
  case ge =>
    cases p <;> cases q <;> simp only [doCmp, Option.some.injEq, reduceCtorEq] at e
    subst e
    exact ⟨_, _, hp.int, hq.int, post.tree hh (by simp only [RP])⟩
  case in_ =>
    by_cases hx : ∃ x y, p = .str x ∧ q = .str y
    · obtain ⟨x, y, rfl, rfl⟩ := hx
      exact .inr (.inr (rd_sgn true hh hp hq (by simpa [doCmp] using e) (by simpa using post)))
    cases q <;> simp only [doCmp, Option.map_eq_some_iff, reduceCtorEq] at e
    case str y =>
      cases p <;> simp only [doCmp, reduceCtorEq] at e
      exact absurd ⟨_, _, rfl, rfl⟩ hx
    case lst xs => exact .inl (rd_in (neg := false) hh hp (.inl rfl) hq e (by simpa using post))
    case tup xs => exact .inl (rd_in (neg := false) hh hp (.inr rfl) hq e (by simpa using post))
    case dk kvs =>
      obtain ⟨k, e1, e2⟩ := e
      obtain ⟨a, ea, d⟩ := dget_k hq hp e1
      rcases d with ⟨l, d⟩ | ⟨z, u, l, d, _⟩
      · refine .inr (.inl ⟨a, none, ea, d, ?_⟩)
        rw [look_isSome, l] at e2
        subst e2
        exact post.tree hh (by simp only [RP]; rfl)
      · refine .inr (.inl ⟨a, some u, ea, d, ?_⟩)
        rw [look_isSome, l] at e2
        subst e2
        exact post.tree hh (by simp only [RP]; rfl)
    case dt kvs =>
      obtain ⟨k, e1, e2⟩ := e
      obtain ⟨a, ea, d⟩ := dget_t hh.sub hq hp e1
      rcases d with ⟨l, d⟩ | ⟨z, u, l, d, _⟩
      · refine .inr (.inl ⟨a, none, ea, d, ?_⟩)
        rw [look_isSome, l] at e2
        subst e2
        exact post.tree hh (by simp only [RP]; rfl)
      · refine .inr (.inl ⟨a, some u, ea, d, ?_⟩)
        rw [look_isSome, l] at e2
        subst e2
        exact post.tree hh (by simp only [RP]; rfl)
  case nin =>
    by_cases hx : ∃ x y, p = .str x ∧ q = .str y
    · obtain ⟨x, y, rfl, rfl⟩ := hx
      simp only [doCmp, Option.map_eq_some_iff] at e
      obtain ⟨d, e1, e2⟩ := e
      exact .inr (.inr (rd_sgn false hh hp hq e1 (by rw [show (d == false) = !d by cases d <;> rfl, e2]; exact post)))
    cases q <;> simp only [doCmp, Option.map_eq_some_iff, reduceCtorEq] at e
    case str y =>
      cases p <;> simp only [doCmp, reduceCtorEq] at e
      exact absurd ⟨_, _, rfl, rfl⟩ hx
    case lst xs =>
      obtain ⟨d, e1, e2⟩ := e
      exact .inl (rd_in (neg := true) hh hp (.inl rfl) hq e1 (by simp only [if_true]; rw [e2]; exact post))
    case tup xs =>
      obtain ⟨d, e1, e2⟩ := e
      exact .inl (rd_in (neg := true) hh hp (.inr rfl) hq e1 (by simp only [if_true]; rw [e2]; exact post))
    case dk kvs =>
      obtain ⟨k, e1, e2⟩ := e
      obtain ⟨a, ea, d⟩ := dget_k hq hp e1
      rcases d with ⟨l, d⟩ | ⟨z, u, l, d, _⟩
      · refine .inr (.inl ⟨a, none, ea, d, ?_⟩)
        rw [look_isSome, l] at e2
        subst e2
        exact post.tree hh (by simp only [RP]; rfl)
      · refine .inr (.inl ⟨a, some u, ea, d, ?_⟩)
        rw [look_isSome, l] at e2
        subst e2
        exact post.tree hh (by simp only [RP]; rfl)
    case dt kvs =>
      obtain ⟨k, e1, e2⟩ := e
      obtain ⟨a, ea, d⟩ := dget_t hh.sub hq hp e1
      rcases d with ⟨l, d⟩ | ⟨z, u, l, d, _⟩
      · refine .inr (.inl ⟨a, none, ea, d, ?_⟩)
        rw [look_isSome, l] at e2
        subst e2
        exact post.tree hh (by simp only [RP]; rfl)
      · refine .inr (.inl ⟨a, some u, ea, d, ?_⟩)
        rw [look_isSome, l] at e2
        subst e2
        exact post.tree hh (by simp only [RP]; rfl)
theorem rd_cmp (op : CO) : RdV2 M K W (rCmp K op) (cmp op) := by
  intro σ H Q F ρ st x y v w res hh rx ry e p
  unfold cmp at e
  cases ex : peek st x with
  | none => simp [ex] at e
  | some a =>
    cases ey : peek st y with
    | none => simp [ex, ey] at e
    | some b =>
      simp only [ex, ey, Option.map_eq_some_iff] at e
      obtain ⟨c, e1, e2⟩ := e
      subst e2
      exact rd_cmpP hh (peek_ok hh rx ex) (peek_ok hh ry ey) e1 p

/-! ### subscripts -/
theorem atI_eq {α : Type} (xs : List α) (i : Int) : L2.atI xs i = atI xs i := by
  unfold L2.atI atI
  show (L2.ixN xs.length i).bind _ = match Z.ixN xs.length i with | some j => xs[j]? | none => none
  have e : L2.ixN xs.length i = Z.ixN xs.length i := rfl
  rw [e]
  cases Z.ixN xs.length i <;> rfl
theorem RPs.at_ {xs : List PV} {vs : List V} (h : RPs K F xs vs) {i : Int} {x : PV} (e : atI xs i = some x) : ∃ v, L2.atI vs i = some v ∧ RP K F x v := by
  rw [atI_eq]
  unfold atI at e ⊢
  rw [← h.length]
  cases q : ixN xs.length i with
  | none => simp [q] at e
  | some j =>
    simp only [q] at e ⊢
    exact h.get e
theorem RLs.at_ {xs : List LV} {vs : List V} (h : RLs K F ρ xs vs) {i : Int} {x : LV} (e : atI xs i = some x) : ∃ v, L2.atI vs i = some v ∧ RL K F ρ x v := by
  rw [atI_eq]
  unfold atI at e ⊢
  rw [← h.length]
  cases q : ixN xs.length i with
  | none => simp [q] at e
  | some j =>
    simp only [q] at e ⊢
    exact h.get e
theorem atI_mem {α : Type} {xs : List α} {i : Int} {x : α} (e : atI xs i = some x) : x ∈ xs := by
  unfold atI at e
  cases q : ixN xs.length i with
  | none => simp [q] at e
  | some j =>
    simp only [q] at e
    exact List.mem_of_getElem? e
theorem rd_idxP {p i z : PV} {v w : V} {Q : VK} (hh : HR' M K F ρ H st) (hp : PK K F H p v) (hi : PK K F H i w) (e : doIdx p i = some z) (post : PostE M K W σ F ρ H Q (.ok (.pv z) st)) : rIxZ K v w H Q := by
  cases p <;> simp only [doIdx, reduceCtorEq] at e
  case str s =>
    cases i <;> simp only [reduceCtorEq] at e
    split at e
    · rename_i hl
      simp only [Option.map_eq_some_iff] at e
      obtain ⟨c, e1, e2⟩ := e
      subst e2
      refine .inr (.inr (.inl ⟨mkS s, _, c, hp.str.1, hi.int, by rw [mkS_len, line_eq]; exact hl, by rw [mkS_cps, atI_eq]; exact e1, post.tree hh ?_⟩))
      simp only [RP]
      refine ⟨rfl, ?_⟩
      have := hp.str.2
      simp only [okS, List.all_eq_true] at this
      simpa [okS] using this c (atI_mem e1)
    · cases e
  case tup xs =>
    cases i <;> simp only [reduceCtorEq] at e
    simp only [PK, RP] at hp
    obtain ⟨a, vs, e1, e2, e3⟩ := hp
    obtain ⟨u, h1, h2⟩ := e3.at_ e
    exact .inr (.inl ⟨a, vs, _, u, e1, hi.int, .inl (.inl (hh.sub _ _ e2)), h1, post.tree hh h2⟩)
  case lst xs =>
    cases i <;> simp only [reduceCtorEq] at e
    obtain ⟨a, vs, e1, e2, e3⟩ := hp
    obtain ⟨u, h1, h2⟩ := e3.at_ e
    exact .inl ⟨a, vs, _, u, e1, hi.int, .inl (.inl e2), h1, post.tree hh h2⟩
  case dk kvs =>
    cases q : keyK i with
    | none => simp [q] at e
    | some k =>
      simp only [q] at e
      obtain ⟨a, ea, d⟩ := dget_k hp hi q
      rcases d with ⟨l, d⟩ | ⟨z', u, l, d, rz⟩
      · rw [l] at e; cases e
      · rw [l] at e; cases e
        exact .inr (.inr (.inr ⟨a, u, ea, d, post.tree hh rz⟩))
  case dt kvs =>
    cases q : keyT i with
    | none => simp [q] at e
    | some k =>
      simp only [q] at e
      obtain ⟨a, ea, d⟩ := dget_t hh.sub hp hi q
      rcases d with ⟨l, d⟩ | ⟨z', u, l, d, rz⟩
      · rw [l] at e; cases e
      · rw [l] at e; cases e
        exact .inr (.inr (.inr ⟨a, u, ea, d, post.tree hh rz⟩))
theorem rd_getI : RdV2 M K W (rIxZ K) getI := by
  intro σ H Q F ρ st x y v w res hh rx ry e p
  cases x with
  | pv a =>
    cases y with
    | pv b =>
      simp only [getI] at e
      cases q : doIdx a b with
      | none => simp [q, okP] at e
      | some z =>
        simp only [q, okP, Option.some.injEq] at e
        subst e
        simp only [RL] at rx ry
        exact rd_idxP hh (PK.of hh.sub rx) (PK.of hh.sub ry) q p
    | ref _ => simp [getI] at e
    | tup _ => simp [getI] at e
    | exn _ => simp [getI] at e
  | ref n =>
    simp only [RL] at rx
    obtain ⟨a, ev, ea⟩ := rx
    obtain ⟨c, ec, hc⟩ := hh.at ea
    simp only [getI, ec] at e
    cases c with
    | lst live xs =>
      cases y with
      | pv b =>
        cases b <;> simp only [reduceCtorEq] at e
        rename_i i
        cases q : atI xs i with
        | none => simp [q] at e
        | some z =>
          simp only [q, Option.some.injEq] at e
          subst e
          obtain ⟨vs, h1, h2, _⟩ := hc
          obtain ⟨u, l1, l2⟩ := h2.at_ q
          simp only [RL, RP] at ry
          exact .inl ⟨a, vs, i, u, ev, ry, .inl (.inl h1), l1, p.here hh l2⟩
      | ref _ => simp at e
      | tup _ => simp at e
      | exn _ => simp at e
    | dk live kvs =>
      cases y with
      | pv b =>
        cases q : keyK b with
        | none => simp [q] at e
        | some k =>
          simp only [q] at e
          obtain ⟨ks, h1, h2, _⟩ := hc
          simp only [RL] at ry
          obtain ⟨hk, _⟩ := kV_of (H := F) q (PK.of (Sub.refl F) ry)
          subst hk
          have d := DGet.k (k := kyS k) h1
          rcases valV_kL k h2 with ⟨l1, l2⟩ | ⟨z, u, l1, l2, l3⟩
          · rw [l1] at e; cases e
          · rw [l1] at e; cases e
            rw [l2] at d
            exact .inr (.inr (.inr ⟨a, u, ev, d, p.here hh l3⟩))
      | ref _ => simp at e
      | tup _ => simp at e
      | exn _ => simp at e
    | dt live kvs =>
      cases y with
      | pv b =>
        cases q : keyT b with
        | none => simp [q] at e
        | some k =>
          simp only [q] at e
          obtain ⟨ks, h1, h2, _⟩ := hc
          simp only [RL] at ry
          obtain ⟨b', hk, hk2⟩ := kT_of (H := H) hh.sub q (PK.of hh.sub ry)
          subst hk
          have d := DGet.t h1 hk2
          rcases valV_tL k h2 with ⟨l1, l2⟩ | ⟨z, u, l1, l2, l3⟩
          · rw [l1] at e; cases e
          · rw [l1] at e; cases e
            rw [l2] at d
            exact .inr (.inr (.inr ⟨a, u, ev, d, p.here hh l3⟩))
      | ref _ => simp at e
      | tup _ => simp at e
      | exn _ => simp at e
    | ins C fs => simp at e
  | tup xs =>
    cases y with
    | pv b =>
      cases b <;> simp only [getI, reduceCtorEq] at e
      rename_i i
      cases q : atI xs i with
      | none => simp [q] at e
      | some z =>
        simp only [q, Option.some.injEq] at e
        subst e
        simp only [RL] at rx
        obtain ⟨a, vs, e1, e2, e3⟩ := rx
        obtain ⟨u, l1, l2⟩ := e3.at_ q
        simp only [RL, RP] at ry
        exact .inr (.inl ⟨a, vs, i, u, e1, ry, .inl (.inl (hh.sub _ _ e2)), l1, p.here hh l2⟩)
    | ref _ => simp [getI] at e
    | tup _ => simp [getI] at e
    | exn _ => simp [getI] at e
  | exn _ => simp only [RL] at rx

/-! ### truth -/
theorem rd_tru {p : PV} {b : Bool} {v : V} (s : Sub F H) (h : PK K F H p v) (e : tru p = some b) : TruV K v H b := by
  cases p <;> simp only [tru, Option.some.injEq, reduceCtorEq] at e
  case non => subst e; simp only [PK, RP] at h; subst h; rfl
  case bl c => subst e; simp only [PK, RP] at h; subst h; rfl
  case int i => subst e; rw [h.int]; rfl
  case str x =>
    split at e
    · rename_i hl
      simp only [Option.some.injEq] at e
      subst e
      rw [h.str.1]
      refine ⟨by rw [mkS_len, line_eq]; exact hl, ?_⟩
      rw [mkS_len]
      cases x <;> simp
      omega
    · cases e
  case lst xs =>
    subst e
    obtain ⟨a, vs, e1, e2, e3⟩ := h
    subst e1
    refine .inl ⟨vs, .inl (.inl e2), ?_⟩
    have := e3.length
    cases xs <;> cases vs <;> simp at this <;> rfl
  case tup xs =>
    subst e
    simp only [PK, RP] at h
    obtain ⟨a, vs, e1, e2, e3⟩ := h
    subst e1
    refine .inr (.inl ⟨vs, .inl (.inl (s _ _ e2)), ?_⟩)
    have := e3.length
    cases xs <;> cases vs <;> simp at this <;> rfl
  case dk kvs =>
    subst e
    obtain ⟨a, ks, e1, e2, e3⟩ := h
    subst e1
    refine .inr (.inr ⟨ks, e2, ?_⟩)
    cases kvs with
    | nil =>
      simp only [RPk] at e3
      subst e3; rfl
    | cons kv kvs =>
      obtain ⟨k, p⟩ := kv
      simp only [RPk] at e3
      obtain ⟨v, r, e4, _⟩ := e3
      subst e4; rfl
theorem rd_lenL {x : LV} {n : Nat} {v : V} (hh : HR' M K F ρ H st) (r : RL K F ρ x v) (e : lenL x st = some n) : ∃ a ws, v = .ref a ∧ ws.length = n ∧ (H a = some (.lst ws) ∨ H a = some (.tup ws)) := by
  unfold lenL at e
  split at e
  · rename_i m
    split at e
    · rename_i live xs hx
      simp only [Option.some.injEq] at e
      subst e
      simp only [RL] at r
      obtain ⟨a, ev, ea⟩ := r
      obtain ⟨c, ec, hc⟩ := hh.at ea
      rw [ec] at hx
      cases hx
      obtain ⟨ws, h1, h2, _⟩ := hc
      exact ⟨a, ws, ev, h2.length.symm, .inl h1⟩
    · cases e
  · rename_i xs
    simp only [Option.some.injEq] at e
    subst e
    simp only [RL] at r
    obtain ⟨a, ws, e1, e2, e3⟩ := r
    exact ⟨a, ws, e1, e3.length.symm, .inr (hh.sub _ _ e2)⟩
  · cases e
theorem rd_truL {x : LV} {b : Bool} {v : V} (hh : HR' M K F ρ H st) (r : RL K F ρ x v) (e : truL x st = some b) : TruV K v H b := by
  unfold truL at e
  split at e
  · rename_i n hn
    simp only [Option.some.injEq] at e
    subst e
    obtain ⟨a, ws, ev, hl, ho⟩ := rd_lenL hh r hn
    subst ev
    have hb : (n != 0) = !ws.isEmpty := by
      rw [← hl]
      cases ws <;> rfl
    rcases ho with ho | ho
    · exact .inl ⟨ws, .inl (.inl ho), hb⟩
    · exact .inr (.inl ⟨ws, .inl (.inl ho), hb⟩)
  · cases q : peek st x with
    | none => simp [q] at e
    | some p =>
      simp only [q] at e
      exact rd_tru hh.sub (peek_ok hh r q) e
end
end Z
end

section
/-! ZI: freezing, the store behind a call, what a def promises, builtins. -/
namespace Z
open PySem PySem.Spec PyProof.Rows L2
section
variable {M : Nm} {K : PySem.W.Frag} {W : WX} {σ : L2.St} {F F' H H' : Hp} {ρ ρ' : List Addr} {st : Store}
theorem frz_ok {x : LV} {p : PV} {st' : Store} {v : V} (h : HR' M K F ρ H st) (r : RL K F ρ x v) (e : frz x st = some (p, st')) :
    ∃ F', G F ρ H F' ρ H ∧ HR' M K F' ρ H st' ∧ RP K F' p v := by
  cases x with
  | pv q =>
    simp only [frz, Option.some.injEq, Prod.mk.injEq] at e
    obtain ⟨e1, e2⟩ := e
    subst e1 e2
    simp only [RL] at r
    exact ⟨F, G.refl F ρ H, h, r⟩
  | tup xs => simp [frz] at e
  | exn _ => simp [frz] at e
  | ref n =>
    simp only [RL] at r
    obtain ⟨a, ev, ea⟩ := r
    obtain ⟨c, ec, hc⟩ := h.at ea
    simp only [frz, ec] at e
    have base : ∀ (live : Bool) (o : HO), (live = true → F a = none) → (live = false → F a = some o) → F a = none ∨ F a = some o := fun live o h1 h2 => by
      cases live with
      | true => exact .inl (h1 rfl)
      | false => exact .inr (h2 rfl)
    have sb : ∀ o, F a = none ∨ F a = some o → Sub F (upd F a o) := fun o hF b u e => by
      by_cases hb : b = a
      · subst hb
        rcases hF with z | z
        · rw [z] at e; cases e
        · rw [z] at e; rw [upd_same]; exact e
      · rw [upd_ne hb]; exact e
    cases c with
    | lst live xs =>
      obtain ⟨vs, h1, h2, h3, h4⟩ := hc
      cases q : unpv xs with
      | none => simp [q] at e
      | some ps =>
        simp only [q, Option.some.injEq, Prod.mk.injEq] at e
        obtain ⟨e1, e2⟩ := e
        subst e1 e2
        have hF := base live _ h3 h4
        have hs := sb _ hF
        obtain ⟨g, hr⟩ := h.froze ea h1 (c := .lst false xs) hF ⟨vs, h1, RLs.mono hs (Pre.refl ρ) _ _ h2, ⟨fun z => Bool.noConfusion z, fun _ => upd_same⟩⟩
        refine ⟨_, g, hr, ?_⟩
        simp only [RP]
        rw [unpv_eq q] at h2
        exact ⟨a, vs, ev, upd_same, RPs.mono hs _ _ (RLs_pv.mp h2)⟩
    | dk live xs =>
      obtain ⟨vs, h1, h2, h3, h4⟩ := hc
      cases q : unpvK xs with
      | none => simp [q] at e
      | some ps =>
        simp only [q, Option.some.injEq, Prod.mk.injEq] at e
        obtain ⟨e1, e2⟩ := e
        subst e1 e2
        have hF := base live _ h3 h4
        have hs := sb _ hF
        obtain ⟨g, hr⟩ := h.froze ea h1 (c := .dk false xs) hF ⟨vs, h1, RLk.mono hs (Pre.refl ρ) h2, ⟨fun z => Bool.noConfusion z, fun _ => upd_same⟩⟩
        refine ⟨_, g, hr, ?_⟩
        simp only [RP]
        rw [unpvK_eq q] at h2
        exact ⟨a, vs, ev, upd_same, RPk.mono hs _ _ (RLk_pv.mp h2)⟩
    | dt live xs =>
      obtain ⟨vs, h1, h2, h3, h4⟩ := hc
      cases q : unpvK xs with
      | none => simp [q] at e
      | some ps =>
        simp only [q, Option.some.injEq, Prod.mk.injEq] at e
        obtain ⟨e1, e2⟩ := e
        subst e1 e2
        have hF := base live _ h3 h4
        have hs := sb _ hF
        obtain ⟨g, hr⟩ := h.froze ea h1 (c := .dt false xs) hF ⟨vs, h1, RLt.mono hs (Pre.refl ρ) h2, ⟨fun z => Bool.noConfusion z, fun _ => upd_same⟩⟩
        refine ⟨_, g, hr, ?_⟩
        simp only [RP]
        rw [unpvK_eq q] at h2
        exact ⟨a, vs, ev, upd_same, RPt.mono hs _ _ (RLt_pv.mp h2)⟩
    | ins C fs => simp at e

/-! ### a call that knows none of our cells -/
theorem HR.after (h : HR' M K F ρ H st) (sub : Sub F F') (keep : ∀ b o, H b = some o → H' b = some o) (new : ∀ b o, F' b = some o → F b = some o ∨ H b = none) (s : Sub F' H') :
    G F ρ H F' ρ H' ∧ HR' M K F' ρ H' st := by
  refine ⟨⟨sub, Pre.refl ρ, fun b o e _ => keep b o e, fun b o e => (new b o e).elim .inl fun z => .inr (.inl z), fun b hb => .inl hb, fun b hb => ?_⟩, ⟨s, h.len, h.nd, fun n a c e1 e2 => ?_⟩⟩
  · cases q : H b with
    | none => exact absurd q hb
    | some o => rw [keep b o q]; simp
  · have hc := h.cell n a c e1 e2
    obtain ⟨u, hu⟩ := hc.there
    refine hc.mono sub (Pre.refl ρ) (fun o e => keep a o e) fun e => ?_
    cases q : F' a with
    | none => rfl
    | some o =>
      rcases new a o q with z | z
      · rw [e] at z; cases z
      · rw [hu] at z; cases z

/-! ### cells go -/
mutual
theorem RL.below {n : Nat} : ∀ (x : LV) (v : V), below n x = true → RL K F ρ x v → RL K F (ρ.take n) x v
  | .pv p, v, _, h => by simpa only [RL] using h
  | .ref m, v, b, h => by
    simp only [RL] at h ⊢
    obtain ⟨a, e1, e2⟩ := h
    refine ⟨a, e1, ?_⟩
    simp only [Z.below, decide_eq_true_eq] at b
    rw [List.getElem?_take, if_pos b]
    exact e2
  | .tup xs, v, b, h => by
    simp only [RL] at h ⊢
    obtain ⟨a, vs, e1, e2, e3⟩ := h
    exact ⟨a, vs, e1, e2, RLs.below xs vs (by simpa [Z.below] using b) e3⟩
  | .exn _, v, b, h => by simp only [RL] at h
theorem RLs.below {n : Nat} : ∀ (xs : List LV) (vs : List V), belows n xs = true → RLs K F ρ xs vs → RLs K F (ρ.take n) xs vs
  | [], vs, _, h => by simpa only [RLs] using h
  | x :: xs, vs, b, h => by
    simp only [RLs] at h ⊢
    simp only [belows, Bool.and_eq_true] at b
    obtain ⟨v, r, e1, e2, e3⟩ := h
    exact ⟨v, r, e1, RL.below x v b.1 e2, RLs.below xs r b.2 e3⟩
end
theorem RLk.below {n : Nat} : ∀ {xs : List (Ky × LV)} {vs : List (Key × V)}, belows n (xs.map (·.2)) = true → RLk K F ρ xs vs → RLk K F (ρ.take n) xs vs
  | [], vs, _, h => by simpa only [RLk] using h
  | (k, x) :: xs, vs, b, h => by
    simp only [RLk] at h ⊢
    simp only [List.map_cons, belows, Bool.and_eq_true] at b
    obtain ⟨v, r, e1, e2, e3, e4⟩ := h
    exact ⟨v, r, e1, e2, RL.below x v b.1 e3, RLk.below b.2 e4⟩
theorem RLt.below {n : Nat} : ∀ {xs : List (List Ky × LV)} {vs : List (List Key × V)}, belows n (xs.map (·.2)) = true → RLt K F ρ xs vs → RLt K F (ρ.take n) xs vs
  | [], vs, _, h => by simpa only [RLt] using h
  | (k, x) :: xs, vs, b, h => by
    simp only [RLt] at h ⊢
    simp only [List.map_cons, belows, Bool.and_eq_true] at b
    obtain ⟨v, r, e1, e2, e3, e4⟩ := h
    exact ⟨v, r, e1, e2, RL.below x v b.1 e3, RLt.below b.2 e4⟩
theorem CR.below {n : Nat} {a : Addr} {c : Cell} (b : c.below n = true) (h : CR K F ρ M.cad M.fnm H a c) : CR K F (ρ.take n) M.cad M.fnm H a c := by
  cases c with
  | lst live xs => obtain ⟨vs, h1, h2, h3⟩ := h; exact ⟨vs, h1, RLs.below _ _ b h2, h3⟩
  | dk live xs => obtain ⟨vs, h1, h2, h3⟩ := h; exact ⟨vs, h1, RLk.below b h2, h3⟩
  | dt live xs => obtain ⟨vs, h1, h2, h3⟩ := h; exact ⟨vs, h1, RLt.below b h2, h3⟩
  | ins C fs => obtain ⟨dx, vs, h1, h2, h3⟩ := h; exact ⟨dx, vs, h1, RLs.below _ _ b h2, h3⟩
theorem trunc_ok {n : Nat} {ok : Bool} (hn : ρ.length = n) (g : G F ρ H F' ρ' H') (h : HR' M K F' ρ' H' st) :
    ∃ ρ2, G F ρ H F' ρ2 H' ∧ HR' M K F' ρ2 H' (trunc n ok st) ∧ (∀ x v, (ok = true → below n x = true) → RL K F' ρ' x v → RL K F' ρ2 x v) := by
  unfold trunc
  split
  · rename_i hc
    simp only [Bool.and_eq_true, List.all_eq_true] at hc
    refine ⟨ρ'.take n, ⟨g.sub, fun i a e => ?_, g.keep, g.new, fun b hb => g.newρ b (List.mem_of_mem_take hb), g.hold⟩, ⟨h.sub, by rw [List.length_take, List.length_take, h.len], h.nd.sublist (List.take_sublist _ _), fun i a c e1 e2 => ?_⟩,
      fun x v hb r => RL.below x v (hb hc.1) r⟩
    · have hi : i < n := by
        rw [← hn]
        exact (List.getElem?_eq_some_iff.mp e).1
      rw [List.getElem?_take, if_pos hi]
      exact g.pre i a e
    · have e1' : ρ'[i]? = some a := by
        rw [List.getElem?_take] at e1
        split at e1
        · exact e1
        · cases e1
      have e2' : st[i]? = some c := by
        rw [List.getElem?_take] at e2
        split at e2
        · exact e2
        · cases e2
      exact (h.cell i a c e1' e2').below (hc.2 c (List.mem_of_getElem? e2))
  · exact ⟨ρ', g, h, fun x v _ r => r⟩

/-! ### what a def promises -/
def spOf (M : Nm) (K : PySem.W.Frag) (cal : List LV → Store → Option ER) (n : Nat) : Sp := fun vs H Q E =>
  vs.length = n ∧ ∃ F ρ st args r, HR' M K F ρ H st ∧ RLs K F ρ args vs ∧ cal args st = some r ∧ PostE M K (fun cls d _ H => E cls d H) [] F ρ H Q r
theorem PostE.ex_tr {Q : VK} {e : Ex} {st st2 : Store} (p : PostE M K W σ F ρ H Q (.ex e st)) (h : ∀ F' ρ' H', G F ρ H F' ρ' H' → HR' M K F' ρ' H' st2 → ∃ ρ2, G F ρ H F' ρ2 H' ∧ HR' M K F' ρ2 H' st) : PostE M K W σ F ρ H Q (.ex e st2) := by
  intro F' ρ' H' cls d g h' x
  obtain ⟨ρ2, g2, h2⟩ := h F' ρ' H' g h'
  exact p F' ρ2 H' cls d g2 h2 x
theorem rd_call {S : Sem} {f n : Nat} {args : List LV} {vs : List V} {Q : VK} {res : ER} (hh : HR' M K F ρ H st) (ra : RLs K F ρ args vs) (hl : vs.length = n) (e : S.call f args st = some res) (post : PostE M K W σ F ρ H Q res) :
    spOf M K (S.cal f) n vs H Q (fun cls d H => W cls d σ H) := by
  refine ⟨hl, ?_⟩
  have shared : ∀ r0, S.cal f args st = some r0 → (match r0 with
      | .ok v st1 => res = .ok v (trunc st.length (below st.length v) st1)
      | .ex e st1 => res = .ex e (trunc st.length true st1)) → ∃ F ρ st args r, HR' M K F ρ H st ∧ RLs K F ρ args vs ∧ S.cal f args st = some r ∧ PostE M K (fun cls d _ H => W cls d σ H) [] F ρ H Q r := by
    intro r0 e0 hres
    refine ⟨F, ρ, st, args, r0, hh, ra, e0, ?_⟩
    cases r0 with
    | ok x st1 =>
      subst hres
      intro F' ρ' H' v g h r
      obtain ⟨ρ2, g2, h2, k2⟩ := trunc_ok (ok := below st.length x) hh.len g h
      exact post F' ρ2 H' v g2 h2 (k2 x v (fun z => z) r)
    | ex x st1 =>
      subst hres
      intro F' ρ' H' cls d g h r
      obtain ⟨ρ2, g2, h2, _⟩ := trunc_ok (ok := true) hh.len g h
      exact post F' ρ2 H' cls d g2 h2 r
  have isPure : ∀ ps, unpv args = some ps → (∃ r0, S.cal f args [] = some r0 ∧ match r0 with
      | .ok v st1 => ∃ p, frz v st1 = some p ∧ res = .ok (.pv p.1) st
      | .ex e _ => res = .ex e st) → ∃ F ρ st args r, HR' M K F ρ H st ∧ RLs K F ρ args vs ∧ S.cal f args st = some r ∧ PostE M K (fun cls d _ H => W cls d σ H) [] F ρ H Q r := by
    rintro ps eu ⟨r0, e0, hres⟩
    have ea := unpv_eq eu
    have ra0 : RLs K F [] args vs := by
      rw [ea] at ra ⊢
      exact RLs_pv.mpr (RLs_pv.mp ra)
    refine ⟨F, [], [], args, r0, ⟨hh.sub, rfl, List.nodup_nil, fun n a c e _ => by simp at e⟩, ra0, e0, ?_⟩
    cases r0 with
    | ok x st1 =>
      obtain ⟨p, ef, er⟩ := hres
      subst er
      intro F' ρ' H' v g h r
      obtain ⟨F2, g2, h2, r2⟩ := frz_ok h r (p := p.1) (st' := p.2) ef
      have g3 := g.trans g2
      obtain ⟨g4, h4⟩ := hh.after (F' := F2) (H' := H') g3.sub (fun b o e => g3.keep b o e (by simp)) (fun b o e => by
        rcases g3.new b o e with z | z | z
        · exact .inl z
        · exact .inr z
        · simp at z) h2.sub
      exact post F2 ρ H' v g4 h4 (by simp only [RL]; exact r2)
    | ex x st1 =>
      subst hres
      intro F' ρ' H' cls d g h r
      obtain ⟨g4, h4⟩ := hh.after (F' := F') (H' := H') g.sub (fun b o e => g.keep b o e (by simp)) (fun b o e => by
        rcases g.new b o e with z | z | z
        · exact .inl z
        · exact .inr z
        · simp at z) h.sub
      exact post F' ρ H' cls d g4 h4 r
  unfold Sem.call at e
  split at e
  · rename_i ps hs hu
    refine isPure ps hu ?_
    cases q : S.cal f args [] with
    | none => simp [q] at e
    | some r0 =>
      refine ⟨r0, rfl, ?_⟩
      cases r0 with
      | ok v st1 =>
        simp only [q, Option.map_eq_some_iff] at e
        obtain ⟨p, e1, e2⟩ := e
        exact ⟨p, e1, e2.symm⟩
      | ex x st1 =>
        simp only [q, Option.some.injEq] at e
        exact e.symm
  · cases q : S.cal f args st with
    | none => simp [q] at e
    | some r0 =>
      refine shared r0 q ?_
      cases r0 with
      | ok v st1 =>
        simp only [q, Option.some.injEq] at e
        exact e.symm
      | ex x st1 =>
        simp only [q, Option.some.injEq] at e
        exact e.symm
end

/-! ### builtins -/
section
variable {X : Cx}
def biName : BI → Str
  | .len => "len" | .abs => "abs" | .int => "int" | .list => "list" | .sum => "sum" | .all => "all" | .any => "any" | .repr => "repr"
def biV : BI → Value
  | .len => .builtin "len" | .abs => .builtin "abs" | .int => .type "int" | .list => .type "list" | .sum => .builtin "sum" | .all => .builtin "all" | .any => .builtin "any" | .repr => .builtin "repr"
theorem bi_boot : ∀ b : BI, bootBuiltins (biName b) = some (biV b)
  | .len => PySem.boot_len
  | .abs => by decide +kernel
  | .int => by decide +kernel
  | .list => by decide +kernel
  | .sum => by decide +kernel
  | .all => by decide +kernel
  | .any => by decide +kernel
  | .repr => by decide +kernel
def rRepr (K : PySem.W.Frag) : List V → Hp → VK → Prop := fun xs H Q => ∃ a d, xs = [.ref a] ∧ Dp K H (.ref a) d ∧ d.showable = true ∧ d.hasDict = false ∧ d.depth ≤ maxDep ∧ d.shown.length ≤ sizeLine ∧ Q (.str d.shown) H
theorem call_repr (hu : room2 X) (hg : X.A.guards = some []) : CallR X (.builtin "repr") (rRepr X.K) := by
  intro pins s σ H xs us Q I rs h
  obtain ⟨a, d, e, hd, h1, h2, h3, h4, q⟩ := h
  subst e
  obtain ⟨u, eu, ru⟩ := Vals.one rs
  subst eu
  obtain rfl : u = Value.ref a := ru
  obtain ⟨as, rd⟩ := Dp.reads I d (.ref a) (.ref a) hd rfl
  exact repr_of_reads' rd h1 (PyData.noDict_hsm h2) hg (by have h5 : X.A.units + 600 < cLine := hu; have h6 : maxDep = 500 := rfl; omega) (fun _ _ z => z) (fun h' u tk kp => ⟨.str d.shown, H, I.kept (h' := h') (t' := tk) kp, ⟨u, rfl⟩, q⟩) h4
def rBI (K : PySem.W.Frag) : BI → List V → Hp → VK → Prop
  | .len => fun xs H Q => ∃ x n, xs = [x] ∧ LenV K x H n ∧ Q (.int n) H
  | .abs => fun xs H Q => ∃ i, xs = [.int i] ∧ Q (.int (if i < 0 then -i else i)) H
  | .int => fun xs H Q => (∃ i, xs = [.int i] ∧ Q (.int i) H) ∨ ∃ k, xs = [.bl k] ∧ Q (.int (if k then 1 else 0)) H
  | .list => fun xs H Q => ∃ p ys, xs = [.ref p] ∧ (SqL K H p ys ∨ SqT K H p ys) ∧ ∀ l, H l = none → Q (.ref l) (upd H l (.lst ys))
  | .sum => rSum K
  | .all => rAll K
  | .any => rAny K
  | .repr => rRepr K
def needsCalm : BI → Bool
  | .sum => true
  | .all => true
  | .any => true
  | _ => false
/-- what wants that nothing is being shown -/
def needsShow : BI → Bool
  | .repr => true
  | _ => false
theorem call_bi (hu : room2 X) : ∀ b : BI, (needsCalm b = true → X.calm = true) → (needsShow b = true → X.A.guards = some []) → CallR X (biV b) (rBI X.K b)
  | .len, _, _ => call_len
  | .abs, _, _ => call_abs
  | .int, _, _ => call_int1
  | .list, _, _ => call_list_of
  | .sum, hc, _ => cr_sum (hc rfl)
  | .all, hc, _ => cr_all (hc rfl)
  | .any, hc, _ => cr_any (hc rfl)
  | .repr, _, hg => call_repr hu (hg rfl)
/-- a call of a builtin by its name, function or type -/
theorem pe_bi {b : BI} {p pos : Pos} {e : Expr} {es : List Expr} {t : TA} (hu : room2 X) (hc : needsCalm b = true → X.calm = true) (hgd : needsShow b = true → X.A.guards = some []) (hg : Gl X (biName b)) (hm : X.mg (biName b) = none) (ha : PA X (e :: es) t)
    (he : starEach (e :: es) X.env = (false, eval e X.env) :: starEach es X.env) (hpl : (backTo pos (starEach es X.env)).any (·.1) = false) : PE X (.Call (.Name (biName b) p) (e :: es) [] pos) (tCB (rBI X.K b) t) := by
  cases b with
  | len => exact pe_callB (call_bi hu .len hc hgd) hg hm (bi_boot .len) ha (by decide) (by decide) he hpl
  | abs => exact pe_callB (call_bi hu .abs hc hgd) hg hm (bi_boot .abs) ha (by decide) (by decide) he hpl
  | int => exact pe_callTy (call_bi hu .int hc hgd) hg hm (bi_boot .int) ha (by decide) (by decide) he hpl
  | list => exact pe_callTy (call_bi hu .list hc hgd) hg hm (bi_boot .list) ha (by decide) (by decide) he hpl
  | sum => exact pe_callB (call_bi hu .sum hc hgd) hg hm (bi_boot .sum) ha (by decide) (by decide) he hpl
  | all => exact pe_callB (call_bi hu .all hc hgd) hg hm (bi_boot .all) ha (by decide) (by decide) he hpl
  | repr => exact pe_callB (call_bi hu .repr hc hgd) hg hm (bi_boot .repr) ha (by decide) (by decide) he hpl
  | any => exact pe_callB (call_bi hu .any hc hgd) hg hm (bi_boot .any) ha (by decide) (by decide) he hpl
end
section
variable {M : Nm} {K : PySem.W.Frag} {W : WX} {σ : L2.St} {F F' H H' : Hp} {ρ ρ' : List Addr} {st : Store}
def PKs (K : PySem.W.Frag) (F H : Hp) : List PV → List V → Prop
  | [], vs => vs = []
  | x :: xs, vs => ∃ v r, vs = v :: r ∧ PK K F H x v ∧ PKs K F H xs r
theorem peeks_ok (hh : HR' M K F ρ H st) : ∀ {xs : List LV} {vs : List V} {ps : List PV}, RLs K F ρ xs vs → peeks st xs = some ps → PKs K F H ps vs
  | [], vs, ps, r, e => by
    simp only [peeks, Option.some.injEq] at e
    subst e
    simp only [RLs] at r
    exact r
  | x :: xs, vs, ps, r, e => by
    simp only [RLs] at r
    obtain ⟨v, s, e1, e2, e3⟩ := r
    subst e1
    unfold peeks at e
    cases q : peek st x with
    | none => simp [q] at e
    | some p =>
      simp only [q, Option.map_eq_some_iff] at e
      obtain ⟨ps', e4, e5⟩ := e
      subst e5
      exact ⟨v, s, rfl, peek_ok hh e2 q, peeks_ok hh e3 e4⟩
theorem ints_vals : ∀ {ps : List PV} {ns : List Int} {vs : List V}, intsOf ps = some ns → RPs K F ps vs → vs = ns.map V.int
  | [], ns, vs, e, h => by
    simp [intsOf] at e; subst e
    simp only [RPs] at h
    exact h
  | .int i :: ps, ns, vs, e, h => by
    simp only [intsOf, Option.map_eq_some_iff] at e
    obtain ⟨ms, e1, e2⟩ := e
    subst e2
    simp only [RPs, RP] at h
    obtain ⟨v, r, h1, h2, h3⟩ := h
    subst h1 h2
    rw [ints_vals e1 h3]; rfl
  | .non :: _, _, _, e, _ => by simp [intsOf] at e
  | .bl _ :: _, _, _, e, _ => by simp [intsOf] at e
  | .str _ :: _, _, _, e, _ => by simp [intsOf] at e
  | .tup _ :: _, _, _, e, _ => by simp [intsOf] at e
  | .lst _ :: _, _, _, e, _ => by simp [intsOf] at e
  | .dk _ :: _, _, _, e, _ => by simp [intsOf] at e
  | .dt _ :: _, _, _, e, _ => by simp [intsOf] at e
  | .scr _ :: _, _, _, e, _ => by simp [intsOf] at e
theorem bools_vals : ∀ {ps : List PV} {ns : List Bool} {vs : List V}, boolsOf ps = some ns → RPs K F ps vs → vs = ns.map V.bl
  | [], ns, vs, e, h => by
    simp [boolsOf] at e; subst e
    simp only [RPs] at h
    exact h
  | .bl i :: ps, ns, vs, e, h => by
    simp only [boolsOf, Option.map_eq_some_iff] at e
    obtain ⟨ms, e1, e2⟩ := e
    subst e2
    simp only [RPs, RP] at h
    obtain ⟨v, r, h1, h2, h3⟩ := h
    subst h1 h2
    rw [bools_vals e1 h3]; rfl
  | .non :: _, _, _, e, _ => by simp [boolsOf] at e
  | .int _ :: _, _, _, e, _ => by simp [boolsOf] at e
  | .str _ :: _, _, _, e, _ => by simp [boolsOf] at e
  | .tup _ :: _, _, _, e, _ => by simp [boolsOf] at e
  | .lst _ :: _, _, _, e, _ => by simp [boolsOf] at e
  | .dk _ :: _, _, _, e, _ => by simp [boolsOf] at e
  | .dt _ :: _, _, _, e, _ => by simp [boolsOf] at e
  | .scr _ :: _, _, _, e, _ => by simp [boolsOf] at e
theorem PKs.one {p : PV} {vs : List V} (h : PKs K F H [p] vs) : ∃ v, vs = [v] ∧ PK K F H p v := by
  obtain ⟨v, r, e1, e2, e3⟩ := h
  have e3' : r = [] := e3
  subst e3'
  exact ⟨v, e1, e2⟩
theorem RPs_ints : ∀ ns : List Int, RPs K F (ns.map .int) (ns.map V.int)
  | [] => by simp [RPs]
  | n :: ns => by
    simp only [List.map_cons, RPs]
    exact ⟨_, _, rfl, by simp only [RP], RPs_ints ns⟩
theorem rd_bi {b : BI} {ps : List PV} {z : PV} {vs : List V} {Q : VK} (hh : HR' M K F ρ H st) (h : PKs K F H ps vs) (e : doBI b ps = some z) (post : PostE M K W σ F ρ H Q (.ok (.pv z) st)) : rBI K b vs H Q := by
  unfold doBI at e
  split at e
  · simp only [Option.some.injEq] at e; subst e
    obtain ⟨v, e1, a, ws, e2, e3, e4⟩ := h.one
    subst e1 e2
    exact ⟨_, _, rfl, .inl ⟨ws, .inl (.inl e3), rfl⟩, by rw [← e4.length]; exact post.tree hh (by simp only [RP])⟩
  · simp only [Option.some.injEq] at e; subst e
    obtain ⟨v, e1, e2⟩ := h.one
    simp only [PK, RP] at e2
    obtain ⟨a, ws, e2, e3, e4⟩ := e2
    subst e1 e2
    exact ⟨_, _, rfl, .inr ⟨ws, .inl (.inl (hh.sub _ _ e3)), rfl⟩, by rw [← e4.length]; exact post.tree hh (by simp only [RP])⟩
  · split at e
    · rename_i hl
      simp only [Option.some.injEq] at e; subst e
      obtain ⟨v, e1, e2⟩ := h.one
      subst e1
      obtain ⟨e3, _⟩ := e2.str
      subst e3
      refine ⟨_, (mkS _).length, rfl, ⟨by rw [mkS_len, line_eq]; exact hl, rfl⟩, ?_⟩
      rw [mkS_len]
      exact post.tree hh (by simp only [RP])
    · cases e
  · simp only [Option.some.injEq] at e; subst e
    obtain ⟨v, e1, e2⟩ := h.one
    subst e1
    exact ⟨_, by rw [e2.int], post.tree hh (by simp only [RP])⟩
  · simp only [Option.some.injEq] at e; subst e
    obtain ⟨v, e1, e2⟩ := h.one
    subst e1
    exact .inl ⟨_, by rw [e2.int], post.tree hh (by simp only [RP])⟩
  · simp only [Option.some.injEq] at e; subst e
    obtain ⟨v, e1, e2⟩ := h.one
    simp only [PK, RP] at e2
    subst e1 e2
    exact .inr ⟨_, rfl, post.tree hh (by simp only [RP])⟩
  · simp only [Option.some.injEq] at e; subst e
    obtain ⟨v, e1, a, ws, e2, e3, e4⟩ := h.one
    subst e1 e2
    refine ⟨a, ws, rfl, .inl (.inl (.inl e3)), fun l nl => post.made hh nl ?_⟩
    simp only [RP]
    exact ⟨l, ws, rfl, upd_same, RPs.mono (sub_upd (hh.fresh nl)) _ _ e4⟩
  · simp only [Option.some.injEq] at e; subst e
    obtain ⟨v, e1, e2⟩ := h.one
    simp only [PK, RP] at e2
    obtain ⟨a, ws, e2, e3, e4⟩ := e2
    subst e1 e2
    refine ⟨a, ws, rfl, .inr (.inl (.inl (hh.sub _ _ e3))), fun l nl => post.made hh nl ?_⟩
    simp only [RP]
    exact ⟨l, ws, rfl, upd_same, RPs.mono (sub_upd (hh.fresh nl)) _ _ e4⟩
  · simp only [Option.some.injEq] at e; subst e
    obtain ⟨v, e1, e2⟩ := h.one
    simp only [PK, RP] at e2
    obtain ⟨a, e2, e3⟩ := e2
    subst e1 e2
    refine ⟨a, _, rfl, .inl (hh.sub.sqL e3), fun l nl => post.made hh nl ?_⟩
    simp only [RP]
    exact ⟨l, _, rfl, upd_same, RPs_ints _⟩
  · simp only [Option.map_eq_some_iff] at e
    obtain ⟨ns, e0, e1⟩ := e
    subst e1
    obtain ⟨v, e1, a, ws, e2, e3, e4⟩ := h.one
    subst e1 e2
    have := ints_vals e0 e4
    subst this
    exact ⟨a, ns, rfl, .inl (.inl e3), post.tree hh (by simp only [RP])⟩
  · simp only [Option.map_eq_some_iff] at e
    obtain ⟨ns, e0, e1⟩ := e
    subst e1
    obtain ⟨v, e1, a, ws, e2, e3, e4⟩ := h.one
    subst e1 e2
    have := bools_vals e0 e4
    subst this
    exact ⟨a, ns, rfl, .inl (.inl e3), post.tree hh (by simp only [RP])⟩
  · simp only [Option.map_eq_some_iff] at e
    obtain ⟨ns, e0, e1⟩ := e
    subst e1
    obtain ⟨v, e1, a, ws, e2, e3, e4⟩ := h.one
    subst e1 e2
    have := bools_vals e0 e4
    subst this
    exact ⟨a, ns, rfl, .inl (.inl e3), post.tree hh (by simp only [RP])⟩
  · rename_i p
    unfold doRepr at e
    simp only at e
    split at e
    · rename_i hc
      simp only [Option.some.injEq] at e
      subst e
      simp only [Bool.and_eq_true, decide_eq_true_eq] at hc
      obtain ⟨⟨⟨⟨⟨c1, c2⟩, c3⟩, c4⟩, c5⟩, c6⟩ := hc
      obtain ⟨v, e1, e2⟩ := h.one
      subst e1
      obtain ⟨d1, d2⟩ := e2.dp hh.sub c2
      have ra : ∃ a, v = .ref a := by
        cases p <;> simp only [isSq, Bool.false_eq_true] at c1
        · obtain ⟨a, _, e3, _⟩ := (show RP K F (.tup _) v from e2)
          exact ⟨a, e3⟩
        · obtain ⟨a, _, e3, _⟩ := e2
          exact ⟨a, e3⟩
      obtain ⟨a, ea⟩ := ra
      subst ea
      have es : (toD p).shown = mkS (shown p) := by
        unfold shown mkS
        cases (toD p).shown
        simp
      refine ⟨a, toD p, rfl, d1, c4, PyData.hasDict_of_canLay _ d2, by rw [depth_toD]; exact c3, ?_, ?_⟩
      · rw [es, mkS_len, line_eq]; exact c6
      · rw [es]
        exact post.tree hh (by simp only [RP, true_and]; exact c5)
    · cases e
  · cases e
end
end Z
end

section
/-! ZJ: the look that a def of the text is what the small AST says. -/
namespace Z
open PySem L2
/-- a class: its name, its fields -/
structure CI where
  name : Str
  fields : List Nat
  /-- methods: name, def, how many parameters -/
  meths : List (Str × Nat × Nat) := []
/-- an error class: its name, parameters, fields from parameters (the last one set ahead) -/
structure EI where
  name : Str
  np : Nat
  fl : List (Nat × Nat)
structure Tab where
  defs : List (Option Str × Nat)
  glbs : List Str
  fnames : List Str := []
  cls : List CI := []
  errs : List EI := []
  /-- defs that may be called within an except suite -/
  hots : List Nat := []
/-- what a method may be asked of: no super() -/
def plainO : Expr → Bool
  | .Call (.Name x _) [] _ _ => x != ("super" : Str)
  | .Call _ [] _ _ => false
  | _ => true
structure SC where
  N : List Str
  sc : Scope
  fn : Str → Bool
  T : Tab
  /-- within an except suite; the slot of its name -/
  hot : Bool := false
  exn : Option Nat := none
  /-- not within a comprehension -/
  top : Bool := true
def gl? (g : SC) (x : Str) : Bool := decide (g.sc.names.lookup x = some .globalImplicit) && !(x == ("__debug__" : Str))
def vis? (g : SC) (x : Str) : Bool := (match g.sc.names.lookup x with
  | some .local | some .cell | some .free => true
  | _ => false) && !(x == ("__debug__" : Str)) && !(x == ("__classdict__" : Str))
def loc? (g : SC) (x : Str) : Bool := match g.sc.names.lookup x with
  | some .local => true
  | some .cell => g.fn x
  | _ => false
def isSet : Expr → Bool
  | .Set .. => true
  | _ => false
def isSlice : Expr → Bool
  | .Slice .. => true
  | _ => false
def isStar : Expr → Bool
  | .Starred .. => true
  | _ => false
def isComp : Expr → Bool
  | .ListComp .. | .SetComp .. | .DictComp .. => true
  | _ => false
/-- its test is its value's truth -/
def plainT : Expr → Bool
  | .UnaryOp .Not _ _ | .BoolOp .. | .IfExp .. | .Compare .. => false
  | _ => true
def litOk : PV → Const → Bool
  | .non, .none => true
  | .bl b, .bool c => b == c
  | .int i, .int j => i == j
  | .str s, .str x => decide (x = mkS s) && okS s
  | _, _ => false
def tyName : Ty → Str
  | .int => "int" | .bool => "bool" | .str => "str" | .list => "list" | .tuple => "tuple"
def bmName : BM → Str
  | .append => "append" | .get2 => "get" | .pop0 => "pop" | .join => "join" | .extend => "extend" | .insert => "insert" | .index => "index"
def bmAr : BM → Nat
  | .append => 1 | .get2 => 2 | .pop0 => 0 | .join => 1 | .extend => 1 | .insert => 2 | .index => 1
def rangeN : Str := "range"
mutual
def chkG (g : SC) : MG → Expr → Bool
  | .nm i, e => (match e with
    | .Name x _ => decide (g.N[i]? = some x) && loc? g x
    | _ => false)
  | .tp gs, e => (match e with
    | .Tuple es _ _ => !g.hot && chkGs g gs es
    | _ => false)
def chkGs (g : SC) : List MG → List Expr → Bool
  | [], es => es.isEmpty
  | x :: xs, es => (match es with
    | e :: es => chkG g x e && !isStar e && chkGs g xs es
    | [] => false)
end
mutual
def slotsG : MG → List Nat
  | .nm i => [i]
  | .tp gs => slotsGs gs
def slotsGs : List MG → List Nat
  | [] => []
  | g :: gs => slotsG g ++ slotsGs gs
end
def opD (o p : Operator) : Bool := decide (o = p)
def comps : List Comprehension → Option (Expr × Expr × List Expr)
  | [⟨t, it, is, a⟩] => if a = 0 then some (t, it, is) else none
  | _ => none
def ownOf (N : List Str) : List Nat → Option (List (Str × Nat))
  | [] => some []
  | i :: r => match N[i]? with
    | some x => (ownOf N r).map ((x, i) :: ·)
    | none => none
def SC.blk (g : SC) (scope : Scope) : SC := { g with top := false, sc := relS scope g.sc, fn := fun x => decide (scope.names.lookup x = some .cell) }
/-- what is looked at of an iterable -/
def srcOf (g : SC) (ik : IK) (e : Expr) : Option (List Expr) := match ik with
  | .val => if isSet e then none else some [e]
  | .range => match e with
    | .Call (.Name f _) xs [] _ => if decide (f = rangeN) && gl? g f && decide (1 ≤ xs.length) && decide (xs.length ≤ 3) then some xs else none
    | _ => none
mutual
def chkE (g : SC) : ME → Expr → Bool
  | .var i, e => (match e with
    | .Name x _ => decide (g.N[i]? = some x) && vis? g x
    | _ => false)
  | .lit p, e => (match e with
    | .Constant c _ _ => litOk p c
    | _ => false)
  | .glb k, e => (match e with
    | .Name x _ => decide (g.T.glbs[k]? = some x) && gl? g x
    | _ => false)
  | .tup es, e => (match e with
    | .Tuple xs _ _ => chkEs g es xs
    | _ => false)
  | .lst _ es, e => (match e with
    | .List xs _ => chkEs g es xs
    | _ => false)
  | .dnew _, e => (match e with
    | .Dict [] [] _ => true
    | _ => false)
  | .bin op a b, e => (match e with
    | .BinOp x o y _ => decide (o = opB op) && chkE g a x && chkE g b y
    | _ => false)
  | .cmp op a b, e => (match e with
    | .Compare x [o] [y] _ => decide (o = opC op) && !isSet y && chkE g a x && chkE g b y
    | _ => false)
  | .boolop c es, e => (match e with
    | .BoolOp o xs _ => decide (o = if c then BoolOp.And else BoolOp.Or) && !es.isEmpty && chkEs g es xs
    | _ => false)
  | .not t, e => (match e with
    | .UnaryOp .Not x _ => chkE g t x
    | _ => false)
  | .neg a, e => (match e with
    | .UnaryOp .USub x _ => chkE g a x
    | _ => false)
  | .ite c a b, e => (match e with
    | .IfExp c' a' b' _ => chkT g c c' && chkE g a a' && chkE g b b'
    | _ => false)
  | .idx a i, e => (match e with
    | .Subscript x y _ => !isSlice y && chkE g a x && chkE g i y
    | _ => false)
  | .slc a l lo h hi, e => (match e with
    | .Subscript x (.Slice le ue none _) _ => chkE g a x && (match le with
      | some e => l && chkE g lo e
      | none => !l) && (match ue with
      | some e => h && chkE g hi e
      | none => !h)
    | _ => false)
  | .rev a, e => (match e with
    | .Subscript x (.Slice none none (some (.UnaryOp .USub (.Constant (.int 1) _ _) _)) _) _ => chkE g a x
    | _ => false)
  | .isn neg a, e => (match e with
    | .Compare x [o] [.Constant .none _ _] _ => decide (o = if neg then CmpOp.IsNot else CmpOp.Is) && chkE g a x
    | _ => false)
  | .isi t a, e => (match e with
    | .Call (.Name f _) [x, .Name ty _] [] _ => decide (f = "isinstance") && decide (ty = tyName t) && gl? g f && gl? g ty && !isStar x && chkE g a x
    | _ => false)
  | .bi b es, e => (match e with
    | .Call (.Name f _) xs [] _ => decide (f = biName b) && gl? g f && !es.isEmpty && chkEs g es xs && (!g.hot || (!needsCalm b && (!needsShow b || g.exn.isSome)))
    | _ => false)
  | .bm m r es, e => (match e with
    | .Call (.Attribute o a apos) xs [] cpos => decide (a = bmName m) && chkE g r o && decide (es.length = bmAr m) && (apos.endLine == cpos.line) && (match o with
      | .Call _ [] _ _ => false
      | _ => true) && chkEs g es xs
    | _ => false)
  | .call f es, e => (match e with
    | .Call (.Name x _) xs [] _ => decide (g.T.defs[f]? = some (some x, es.length)) && gl? g x && !es.isEmpty && chkEs g es xs && (!g.hot || g.T.hots.contains f)
    | _ => false)
  | .lc _ elt tg ik src ifs own, e => (match e with
    | .ListComp e gs scope _ => (match comps gs, ownOf g.N own with
      | some (t, it, is), some ow => (match srcOf g ik it with
        | some xs => blkC g.N g.sc scope ow && (slotsG tg).all (own.contains ·) && chkG (g.blk scope) tg t && chkEs g src xs && chkIfs (g.blk scope) ifs is && chkE (g.blk scope) elt e && !g.hot
        | none => false)
      | _, _ => false)
    | _ => false)
  | .frz a, e => chkE g a e
  | .fld c a f, e => (match e with
    | .Attribute x n _ => (match x with
      | .Call _ [] _ _ => false
      | _ => true) && decide (g.T.fnames[f]? = some n) && (match g.T.cls[c]? with
      | some ci => ci.fields.contains f
      | none => false) && chkE g a x
    | _ => false)
  | .mcall c f a es, e => (match e with
    | .Call (.Attribute o n apos) xs [] cpos => !g.hot && (apos.endLine == cpos.line) && plainO o && decide (es.length < 20) && (match g.T.cls[c]? with
      | some ci => ci.meths.contains (n, f, es.length + 1) && !g.T.fnames.contains n
      | none => false) && chkE g a o && chkEs g es xs
    | _ => false)
  | .new c f es, e => (match e with
    | .Call (.Name x _) xs [] _ => !g.hot && gl? g x && (match g.T.cls[c]? with
      | some ci => decide (ci.name = x) && ci.meths.contains ("__init__", f, es.length + 1)
      | none => false) && chkEs g es xs
    | _ => false)
  | .xfld i f, e => (match e with
    | .Attribute (.Name x _) n _ => decide (g.exn = some i) && decide (g.N[i]? = some x) && vis? g x && decide (g.T.fnames[f]? = some n)
    | _ => false)
  | .xisi i c, e => (match e with
    | .Call (.Name fn _) [.Name x _, .Name cn _] [] _ => decide (fn = "isinstance") && gl? g fn && decide (g.exn = some i) && decide (g.N[i]? = some x) && vis? g x && gl? g cn && decide ((g.T.errs[c]?).map (·.name) = some cn)
    | _ => false)
def chkEs (g : SC) : List ME → List Expr → Bool
  | [], es => es.isEmpty
  | m :: ms, es => (match es with
    | e :: es => !isStar e && chkE g m e && chkEs g ms es
    | [] => false)
def chkIfs (g : SC) : List MT → List Expr → Bool
  | [], es => es.isEmpty
  | t :: ts, es => (match ts, es with
    | [], [e] => chkT g t e
    | _, _ => false)
def chkT (g : SC) : MT → Expr → Bool
  | .val m, e => plainT e && chkE g m e
  | .cmp op a b, e => (match e with
    | .Compare x [o] [y] _ => decide (o = opC op) && !isSet y && chkE g a x && chkE g b y
    | _ => false)
  | .isn neg a, e => (match e with
    | .Compare x [o] [.Constant .none _ _] _ => decide (o = if neg then CmpOp.IsNot else CmpOp.Is) && chkE g a x
    | _ => false)
  | .boolop c ts, e => (match e with
    | .BoolOp o xs _ => decide (o = if c then BoolOp.And else BoolOp.Or) && !ts.isEmpty && chkTs g ts xs
    | _ => false)
  | .not t, e => (match e with
    | .UnaryOp .Not x _ => chkT g t x
    | _ => false)
def chkTs (g : SC) : List MT → List Expr → Bool
  | [], es => es.isEmpty
  | t :: ts, es => (match es with
    | e :: es => chkT g t e && chkTs g ts es
    | [] => false)
end
end Z
end

section
/-! ZV: an error with fields is asked for its class; errors with an own __init__ are made. -/
namespace Z
open PySem PySem.Spec PySem.Calls PyProof.Rows PySem.W L2
section
variable {prog : Program} {w : World} {A : Around} {E : Value → Shared → Prop} {s : Shared} {K : Frag} {x D : Addr} {ox : Obj} {od : Option Obj}
theorem cls_data (T : ExcC K D) : findObj K D od "__class__" = some (.bind (.builtin "getset_descriptor.__get__") (.builtin "object.__class__")) := by
  obtain ⟨cd, hcd, _⟩ := any_some T.hd
  unfold findObj
  rw [hcd, Option.bind_some, T.ha, Option.bind_some]
  simp [T.hn, T.ht]
theorem asked_class (T : ExcC K D) {Q : Option Value → Shared → Prop} (X : K.In s.heap) (J : InstAt s.heap x ox D od) (fin : Q (some (.ref D)) { s with toks := s.toks + 1 }) : wpAny (model prog w) A (getAttr? (.ref x) "__class__") Q E s := by
  obtain ⟨hh, gg, dr, tk, ost⟩ := s
  have t0 := J.type (M := model prog w)
  have t1 := looks_findIn (M := model prog w) X T.hg
  have t2 := looks_findIn (M := model prog w) X T.hk
  have t3 := looks_find (M := model prog w) X J (cls_data (od := od) T)
  have base : Looks (model prog w) hh (isInstance (.ref x) (.type "BaseException")) true := t0.andThen (looks_subIn X T.hs)
  have n0 : (Value.builtin "BaseException.__getattribute__" == Value.builtin "object.__getattribute__") = false := by decide +kernel
  have n1 : (onTheHeap (Value.ref D) && Value.builtin "BaseException.__getattribute__" == Value.builtin "object.__getattribute__") = false := by rw [n0]; rfl
  have n2 : (false && onTheHeap (Value.builtin "BaseException.__getattribute__")) = false := rfl
  unfold getAttr? getAttrBy? getAttrBy
  refine wpAny_bind (wpAny_mkText ?_)
  refine wpAny_bind (wpAny_attempt (wpAny_holding ?_))
  refine wpAny_bind (t0.at (wpAny_bind (t1.at ?_)))
  show wpAny _ _ (if (onTheHeap (Value.ref D) && Value.builtin "BaseException.__getattribute__" == Value.builtin "object.__getattribute__") = true then _ else _) _ _ _
  rw [n1]
  rw [if_neg Bool.false_ne_true]
  unfold getAttrByItsOwn hookBefore
  refine wpAny_bind ?_
  rw [if_pos (show onTheHeap (Value.ref D) = true from rfl)]
  refine t2.at (wpAny_bind (wpAny_attempt (wpAny_holding ?_)))
  unfold callGetattribute
  rw [n2]
  rw [if_neg Bool.false_ne_true]
  unfold boundAndCalled
  rw [PySem.F.excAttr_ValueError.ga.bind (.ref x)]
  refine wpAny_bind (wpAny_pure ?_)
  show wpAny _ _ (call (.builtin "BaseException.__getattribute__") [.ref x, .str "__class__" tk]) _ _ _
  refine wpAny_call (codeAny_call_builtin PySem.F.excAttr_ValueError.ga.plain PySem.F.entry_bexc_ga ?_)
  refine @check_slot (model prog w) _ _ ⟨hh, gg, dr, tk + 1, ost⟩ "BaseException.__getattribute__" "BaseException" "__getattribute__" (.ref x) [.str "__class__" tk] [] _ (by decide +kernel) (by decide +kernel) base (PySem.F.args_bexc_ga (.ref x) (.str "__class__" tk)) ?_
  unfold Builtin.«object.__getattribute__»
  refine wpAny_bind (wpAny_of_eq (a := ((Value.ref x : Value), [Value.str "__class__" tk])) (by first | rfl | (simp only [slotArgs]; rfl)) ?_)
  refine wpAny_bind (wpAny_pure ?_)
  refine wpAny_bind (t0.at (wpAny_bind (t3.at ?_)))
  show wpAny _ _ (holding [Value.builtin "object.__class__"] (call (.builtin "getset_descriptor.__get__") [.builtin "object.__class__", .ref x, .ref D]) >>= ret) _ _ _
  refine wpAny_bind (wpAny_holding (wpAny_call (class_get (s := ⟨hh, gg, dr, tk + 1, ost⟩) (ox := ox) (od := od) X J T.hm ?_)))
  refine wpAny_pure ?_
  show wpAny _ _ (handedOut (.ref D)) _ _ _
  rw [handedOut_of (v := .ref D) rfl]
  first
    | exact wpAny_pure (wpAny_pure fin)
    | exact wpAny_pure fin
    | exact wpAny_pure (wpAny_bind (wpAny_pure (wpAny_pure fin)))
theorem kitx_err (T : ExcC K D) : KitX K (.ref x) (.ref D) (fun h => InstAt h x ox D od) where
  ty := fun _ _ _ J => J.type
  it := fun _ _ X _ => by
    obtain ⟨cd, hcd, _⟩ := any_some T.hd
    unfold clsIn at hcd
    split at hcd
    · rename_i c1 d1 cd1 sl1 hob
      intro A1 Q1 E1 s1 kp q
      unfold isType loadHead
      exact wpAny_bind (wpAny_loadPart (kp _ _ (X _ _ hob)) (wpAny_pure q))
    · cases hcd
  ne := fun h tp dd its n sl X htp => by
    obtain ⟨cd, hcd, _⟩ := any_some T.hd
    refine Bool.eq_false_iff.mpr fun q => ?_
    obtain rfl : D = tp := Value.ref.inj (beq_iff_eq.mp q)
    unfold clsIn at hcd
    split at hcd
    · rename_i c1 d1 cd1 sl1 hob
      have z := (X _ _ hob).symm.trans htp
      cases z
    · cases hcd
  ca := fun X J q => asked_class T X J q
end
/-- isinstance(e, c), e the error that the suite holds, with fields or without -/
def rIsX (K : Frag) (D a : Addr) (d : Option Addr) : List V → Hp → VK → Prop := fun xs H Q => ∃ (c : V) (cv : Value) (b : Bool), xs = [.ref a, c] ∧ (∀ u, RelV c u → u = cv) ∧ (d = none ∨ ∃ dd fs, d = some dd ∧ H dd = some (.xd fs)) ∧ kitOne K (.ref D) cv = some b ∧ Q (.bl b) H
theorem call_isX {X : Cx} {a D : Addr} {oe : Obj} {d : Option Addr} {pn : List (Addr × Obj)} (T : ExcC X.K D) (hz : Zc (.ref D) d oe) (hf : ∃ vs, oe.data = .fields vs) : CallR (X.suite a ((a, oe) :: pn)) (.builtin "isinstance") (rIsX X.K D a d) := by
  intro pins s σ H xs us Q I r h
  obtain ⟨c, cv, b, rfl, hcv, hd, e, q⟩ := h
  cases r with
  | cons rx rr =>
    cases rr with
    | cons rt rr =>
      cases rr
      cases rx
      have ec := hcv _ rt
      subst ec
      obtain ⟨hget, _⟩ := I.pin (a, oe) (List.mem_append.mpr (.inl List.mem_cons_self))
      obtain ⟨vs, hv⟩ := hf
      have J : ∃ od, InstAt s.heap a oe D od := by
        rcases hd with hd | ⟨dd, fs, hd, hx⟩
        · refine ⟨none, hget, hz.1, by unfold notCls; rw [hv] <;> rfl, ?_⟩
          rw [hz.2, hd]; trivial
        · obtain ⟨mA, hns, hr⟩ := (show ObjOk X.prog X.w H s.heap dd (.xd fs) from I.hok dd _ hx)
          obtain ⟨od, es, ep, ho, _⟩ := hns
          refine ⟨some od, hget, hz.1, by unfold notCls; rw [hv] <;> rfl, ?_⟩
          rw [hz.2, hd]; exact ho
      obtain ⟨od, J⟩ := J
      exact kia_one (kitx_err T) I.kIn J e (fun z => nomatch z) fun tk => ⟨.bl b, H, I.kept (t' := tk) fun _ _ z => z, rfl, q⟩
end Z
end

section
/-! ZW: errors whose __init__ keeps its parameters in fields: made, raised. -/
namespace Z
open PySem PySem.Spec PyProof.Rows L2
section
variable {X : Cx} {e : Expr} {es : List Expr} {ta : TA} {p pos : Pos}
/-- C(e, ..) behind raise -/
theorem pmkX {CX : CXT} {x : Str} {C fI : Addr} {k : Nat} {fd : FuncData} {ps : List Str} {sp : Sp} (T : OexC X.K C) (iC : PySem.W.findIn X.K (.ref C) "__init__" = some (some (.ref fI))) (tI : PySem.W.typeIn X.K (.ref fI) = some (.type "function"))
    (FI : FnOk X.prog X.w X.K X.mg X.base CX k fI fd ps sp) (room : Room (k + 1) X.A) (bd : Binds X.K fd ps []) (ps0 : Passes CX X (fun _ _ _ => False)) (hg : Gl X x) (hm : X.mg x = some (.ref C)) (ha : PA X (e :: es) ta)
    (hdb : (x == ("__debug__" : Str)) = false) (st : starEach (e :: es) X.env = (false, eval e X.env) :: starEach es X.env) (pl : (backTo pos (starEach es X.env)).any (·.1) = false) :
    L2N.PMk X (.Call (.Name x p) (e :: es) [] pos) (tMkO C sp [] ta) := by
  intro pins s σ H Q I h
  obtain ⟨nm, q, N, bs, bm, sn, sub, ab, col, dd, k0, k1, k2, k3, k5, hC, hbm⟩ := T.cls
  refine wpAny_Call_Name_kw (ld_glob I hg hm ?_ hdb)
  refine PySem.W.callWith_K (h₀ := X.base) I.ok.mod.kin T.kC (thn (ha.run pos pins s σ H _ I h) fun us s1 hs1 => ?_) st pl
  obtain ⟨vs, H1, J, rv, hlen, hall⟩ := hs1
  refine ⟨J.kIn, ?_⟩
  show wpAny _ _ (call (.ref C) us) _ _ _
  obtain ⟨h0, gs, drn, tks, ost⟩ := s1
  have up1 : h0.objs.size ≤ h0.objs.size + 1 := Nat.le_succ _
  have keep : ∀ b o, h0.get? b = some o → ((h0.push (PySem.W.kdv_tup us)).push (PySem.HandSPX.excO C h0.objs.size)).get? b = some o := fun b o z => Heap.get?_push_of_some _ (Heap.get?_push_of_some _ z)
  have there : ((h0.push (PySem.W.kdv_tup us)).push (PySem.HandSPX.excO C h0.objs.size)).get? (h0.objs.size + 1) = some (PySem.HandSPX.excO C h0.objs.size) := by heap_get
  have J2 := J.laid (t' := tks) (a := h0.objs.size + 1) (o := exo (h0.objs.size + 1) C none) keep up1 (exo_ok there)
  have hcall := hall (h0.objs.size + 1) (J.hok.fresh up1)
  have rv2 : Vals (V.ref (h0.objs.size + 1) :: (vs ++ [])) (Value.ref (h0.objs.size + 1) :: (us ++ [])) := .cons rfl (rv.append .nil)
  have len : (Value.ref (h0.objs.size + 1) :: us ++ []).length = ps.length := by
    have z := rv2.length
    rw [FI.len _ _ _ _ hcall] at z
    exact z.symm
  have few : us.length ≤ sizeLine := by
    rw [← Paired.length rv, sizeLine_eq]
    omega
  have bz := bd _ (Value.ref (h0.objs.size + 1) :: us) J2.kIn len
  rw [List.cons_append] at bz
  have hrun := FI.run _ X.stack _ _ ⟨Value.ref (h0.objs.size + 1) :: us, []⟩ (Value.ref (h0.objs.size + 1) :: (us ++ [])) _ _ (fun _ _ _ => False) (room.make C us []) (J2.env0.make C us []) bz rv2 hcall
  refine wpAny_call (PySem.HandSPX.call_own F.excBase_ValueError (fun Y => PySem.HandSPX.refsVE_contains Y bm hbm) (J.kIn _ _ hC) (PySem.W.looks_findIn J.kIn iC) (fun self => PySem.W.bind_fn J.kIn self tI) few (codeAny_mono hrun fun r s' back => ?_))
  cases r with
  | error er => exact ps0 pins σ _ _ er s' J2 back
  | ok fl =>
    cases fl with
    | next => exact False.elim back
    | brk => exact False.elim back
    | cont => exact False.elim back
    | ret u =>
      obtain ⟨v, H2, os2, bare2, un2, hok2, rvv, ev, d, fs, ea, ed, nd, fin⟩ := back
      subst ev
      obtain ⟨h2, g2, d2, t2, o2⟩ := s'
      obtain ⟨t0, G0, J3, kG, ge, hoe, na⟩ := mk_end0 (d2 := d2) (t2 := t2) J up1 keep un2 hok2 os2 bare2 ea ed nd
      exact ⟨rvv, h0.objs.size + 1, _, _, ⟨G0, g2, d2, t2, o2⟩, _, .ref C, some d, rfl, J3, kG, ge, hoe, ⟨rfl, rfl, fun vs z => by cases z; rfl⟩, rfl, rfl, na, rfl, bare2, raises_own T.exC T.tyC, fin⟩
end
/-! ### the body of such an __init__ -/
/-- the fields that the stores leave, the last one ahead -/
def extF (ys : List V) : List (Str × V) → List (Str × Nat) → Option (List (Str × V))
  | acc, [] => some acc
  | acc, (f, i) :: r => match ys[i]? with
    | some y => extF ys ((f, y) :: acc) r
    | none => none
def tInit (K : PySem.W.Frag) : List (Str × Nat) → TS
  | [] => tNext
  | (f, i) :: r => tSeq (tOst K f (tVar 0) (tVar (i + 1))) (tInit K r)
def chkInit (N : List Str) (sc : Scope) : List (Str × Nat) → List Stmt → Bool
  | [], ss => ss.isEmpty
  | (f, i) :: r, ss => (match ss with
    | .Assign [.Attribute (.Name a _) g _] (.Name x _) _ :: ss => decide (g = f) && decide (N[0]? = some a) && decide (N[i + 1]? = some x) && vis? { N := N, sc := sc, fn := fun _ => true, T := { defs := [], glbs := [] } } a && vis? { N := N, sc := sc, fn := fun _ => true, T := { defs := [], glbs := [] } } x && chkInit N sc r ss
    | _ => false)
theorem vis_of {X : Cx} {N : List Str} {sc : Scope} {T : Tab} (hs : X.env.scope = sc) {x : Str} (h : vis? { N := N, sc := sc, fn := fun _ => true, T := T } x = true) : Vis X.env.scope x ∧ (x == ("__debug__" : Str)) = false ∧ (x == ("__classdict__" : Str)) = false := by
  simp only [vis?, Bool.and_eq_true, Bool.not_eq_true'] at h
  refine ⟨?_, h.1.2, h.2⟩
  have h1 := h.1.1
  unfold Vis
  rw [hs]
  split at h1
  · exact .inl (by assumption)
  · exact .inr (.inl (by assumption))
  · exact .inr (.inr (by assumption))
  · cases h1
theorem pss_init {X : Cx} {N : List Str} {sc : Scope} (hN : X.N = N) (hs : X.env.scope = sc) : ∀ {r : List (Str × Nat)} {ss : List Stmt}, chkInit N sc r ss = true → PSs X ss (tInit X.K r)
  | [], ss, h => by
    simp only [chkInit, List.isEmpty_iff] at h
    subst h
    exact pss_nil
  | (f, i) :: r, ss, h => by
    unfold chkInit at h
    split at h
    · simp only [Bool.and_eq_true, decide_eq_true_eq] at h
      obtain ⟨⟨⟨⟨⟨h1, h2⟩, h3⟩, h4⟩, h5⟩, h6⟩ := h
      subst h1
      obtain ⟨v1, v2, v3⟩ := vis_of hs h4
      obtain ⟨w1, w2, w3⟩ := vis_of hs h5
      exact pss_cons (ps_ost (pe_var (by rw [hN]; exact h2) v1 v2 v3) (pe_var (by rw [hN]; exact h3) w1 w2 w3)) (pss_init hN hs h6)
    · cases h
section
variable {K : PySem.W.Frag} {C a : Addr} {ys : List V}
theorem init_old (T : OexC K C) : ∀ {r : List (Str × Nat)} {acc fs : List (Str × V)} {D : Ends} {σ : L2.St} {H : Hp} {d : Addr}, (∀ q ∈ r, PySem.W.findIn K (.ref C) q.1 = some none) → H a = some (exo a C (some d)) → H d = some (exd d acc) → d ≠ a → acc.length + r.length ≤ 900 →
    σ[0]? = some (some (.ref a)) → (∀ i y, ys[i]? = some y → σ[i + 1]? = some (some y)) → extF ys acc r = some fs → (∀ H', H' a = some (exo a C (some d)) → H' d = some (exd d fs) → (∀ b, b ≠ d → H' b = H b) → D.nx σ H') → tInit K r D σ H
  | [], acc, fs, D, σ, H, d, hno, ea, ed, ne, hl, s0, sy, ex, q => by
    simp only [extF, Option.some.injEq] at ex
    subst ex
    exact q H ea ed fun _ _ => rfl
  | (f, i) :: r, acc, fs, D, σ, H, d, hno, ea, ed, ne, hl, s0, sy, ex, q => by
    unfold extF at ex
    split at ex
    · rename_i y hy
      refine ⟨y, sy i y hy, _, s0, a, C, rfl, T, hno _ List.mem_cons_self, .inr ⟨d, acc, ea, ed, by simp only [List.length_cons] at hl; omega, ?_⟩⟩
      refine init_old T (d := d) (fun z hz => hno z (List.mem_cons_of_mem _ hz)) (by rw [upd_ne (Ne.symm ne)]; exact ea) upd_same ne (by simp only [List.length_cons] at hl ⊢; omega) s0 sy ex fun H' e1 e2 e3 => ?_
      exact q H' e1 e2 fun b hb => by rw [e3 b hb, upd_ne hb]
    · cases ex
theorem init_new (T : OexC K C) {f : Str} {i : Nat} {r : List (Str × Nat)} {fs : List (Str × V)} {D : Ends} {σ : L2.St} {H : Hp} (hno : ∀ q ∈ (f, i) :: r, PySem.W.findIn K (.ref C) q.1 = some none) (ea : H a = some (exo a C none)) (hl : r.length ≤ 800)
    (s0 : σ[0]? = some (some (.ref a))) (sy : ∀ i y, ys[i]? = some y → σ[i + 1]? = some (some y)) (ex : extF ys [] ((f, i) :: r) = some fs)
    (q : ∀ d H', H d = none → d ≠ a → H' a = some (exo a C (some d)) → H' d = some (exd d fs) → (∀ b, b ≠ d → b ≠ a → H' b = H b) → D.nx σ H') : tInit K ((f, i) :: r) D σ H := by
  unfold extF at ex
  split at ex
  · rename_i y hy
    refine ⟨y, sy i y hy, _, s0, a, C, rfl, T, hno _ List.mem_cons_self, .inl ⟨ea, fun d nd ne => ?_⟩⟩
    refine init_old T (d := d) (fun z hz => hno z (List.mem_cons_of_mem _ hz)) upd_same (by rw [upd_ne ne]; exact upd_same) ne (by simp only [List.length_cons, List.length_nil]; omega) s0 sy ex fun H' e1 e2 e3 => ?_
    refine q d H' nd ne e1 e2 fun b hb hb2 => ?_
    rw [e3 b hb, upd_ne hb2, upd_ne hb]
  · cases ex
end
/-- its promise -/
def spI (C : Addr) (fl : List (Str × Nat)) (np : Nat) : Sp := fun vs H Q _ => ∃ a ys fs, vs = .ref a :: ys ∧ ys.length = np ∧ H a = some (exo a C none) ∧ extF ys [] fl = some fs ∧
  ∀ d H', H d = none → d ≠ a → H' a = some (exo a C (some d)) → H' d = some (exd d fs) → (∀ b, b ≠ d → b ≠ a → H' b = H b) → Q .non H'
theorem init_ok {P : Program} {w : World} {K : PySem.W.Frag} {mg : Str → Option Value} {base : Heap} {CX : CXT} {x qual : Str} {params : Arguments} {body : List Stmt} {scope : Scope} {f C : Addr} {fd : FuncData} {N ps : List Str} {k : Nat} {fl : List (Str × Nat)} {np : Nat}
    (F : FunD K x qual params body scope [] [] f fd) (S : FnScope N ps scope) (T : OexC K C) (hn : ps.length = np + 1) (hne : fl ≠ []) (hl : fl.length ≤ 800) (hno : ∀ q ∈ fl, PySem.W.findIn K (.ref C) q.1 = some none) (hc : chkInit N scope fl body = true) :
    FnOk P w K mg base CX (k + 1) f fd ps (spI C fl np) := by
  refine F.ok S (fun vs H Q E h => ?_) fun cdv A outer s H vs Q E hr h => ?_
  · obtain ⟨a, ys, fs, e1, e2, _⟩ := h
    rw [e1, List.length_cons, e2, hn]
  · refine ⟨_, pss_init rfl rfl hc, ?_⟩
    obtain ⟨a, ys, fs, e1, e2, ea, ex, q⟩ := h
    subst e1
    match fl, hne, hl, hno, ex, hc with
    | (g, i) :: r, _, hl, hno, ex, hc =>
      refine init_new (ys := ys) T hno ea (by simp only [List.length_cons] at hl; omega) rfl (fun i y hy => ?_) ex q
      unfold L2.start
      have hi : i < ys.length := (List.getElem?_eq_some_iff.mp hy).1
      rw [List.getElem?_append_left (by simp; omega)]
      simp [hy]
end Z
end

section
/-! ZJc: defs where nothing is being shown (no guard on the stack); methods, makers of such. -/
namespace Z
open PySem PySem.Spec PyProof.Rows L2
structure FnG (P : Program) (w : World) (K : PySem.W.Frag) (mg : Str → Option Value) (base : Heap) (CX : CXT) (k : Nat) (f : Addr) (fd : FuncData) (ps : List Str) (sp : Sp) : Prop where
  len : ∀ vs H Q E, sp vs H Q E → vs.length = ps.length
  run : ∀ (A : Around) (outer : List Env) (s : Shared) (H : Hp) (args : Args) (us : List Value) (vs : List V) (Q : VK) (E : XK), Room k A → A.guards = some [] → Env0 P w K mg base A outer s H → BindsTo s fd args (ps.zip us) → Vals vs us → sp vs H Q E →
    codeAny (model P w) A (.call (.ref f) args) (L2.CR CX outer P w H s Q E) s
theorem FnG.mono {P : Program} {w : World} {K : PySem.W.Frag} {mg : Str → Option Value} {base : Heap} {CX : CXT} {j k : Nat} {f : Addr} {fd : FuncData} {ps : List Str} {sp : Sp} (F : FnG P w K mg base CX j f fd ps sp) (h : j ≤ k) :
    FnG P w K mg base CX k f fd ps sp := ⟨F.len, fun A outer s H args us vs Q E hr => F.run A outer s H args us vs Q E (hr.mono h)⟩
theorem guards_deeper {A : Around} {env : Env} : (A.deeper env).guards = A.guards := by
  first | rfl | simp [Around.deeper]
theorem guards_make {A : Around} {C : Addr} {us : List Value} {kw : List (Str × Value)} : (A.under (.builtin "type.__call__" ⟨.ref C :: us, kw⟩)).guards = A.guards := by
  first | rfl | simp [Around.under, Code.guards, Code.isGuard, guardIds, pushGuards]
section
variable {P : Program} {w : World} {K : PySem.W.Frag} {mg : Str → Option Value} {base : Heap} {x qual : Str} {params : Arguments} {body : List Stmt} {scope : Scope} {dvs : List V} {kws : List (Str × V)} {f : Addr} {fd : FuncData}
theorem fund_okG {CX : CXT} {N ps : List Str} {k : Nat} {sp : Sp} (F : FunD K x qual params body scope dvs kws f fd) (S : FnScope N ps scope) (len : ∀ vs H Q E, sp vs H Q E → vs.length = ps.length)
    (hbody : ∀ (cdv : Value) (A : Around) (outer : List Env) (s : Shared) (H : Hp) (vs : List V) (Q : VK) (E : XK), Room k (A.deeper (envOfC qual scope s.heap.objs.size f cdv)) → A.guards = some [] → sp vs H Q E →
      ∃ t, PSs (cxOf CX P w K mg base N qual scope f cdv A outer s H E) body t ∧ t { nx := fun _ H' => Q .non H', rt := Q } (start N vs) H) : FnG P w K mg base CX (k + 1) f fd ps sp := by
  obtain ⟨oc, od, dV, kV, doc, pm, an, cdv, ct, osl, rfl, lk, hcd, _, _⟩ := F.ex
  refine ⟨len, fun A outer s H args us vs Q E hr hgd e0 hb r hsp => ?_⟩
  have hl := len _ _ _ _ hsp
  have KX : K.In s.heap := e0.mod.kin.keeps fun b o e => (e0.bs b o e).1
  have lim : s.heap.NoLimit := e0.mod.nolimit.keeps fun b o e => (e0.bs b o e).1
  have hkind : ∀ y ∈ ps.zip us, scope.names.lookup y.1 = some .local ∨ (scope.names.lookup y.1 = some .cell ∧ ((cellsFrom (s.heap.objs.size + 1) scope.names []).lookup y.1).isSome = true) := fun ⟨n, v⟩ hy => by
    rcases S.par n (List.of_mem_zip hy).1 with q | q
    · exact .inl q
    · exact .inr ⟨q, PySem.W.cellsFrom_some _ _ _ (.inl q)⟩
  refine codeAny_call_function hr.depth (KX _ _ lk) rfl S.co S.gen rfl (PySem.W.codeRec_of KX hcd) (hb _ _ _ _ ?_)
  refine wpAny_newFunctionEnv_cells S.kind hkind fun env he s1 x => ?_
  subst he
  refine ⟨lim.keeps x.toInCall.keep, codeAny_func ?_⟩
  obtain ⟨t, ht, hq⟩ := hbody cdv A outer s H vs Q E (hr.deeper _) hgd hsp
  have I : Inv (cxOf CX P w K mg base N qual scope f cdv A outer s H E) [] (start N vs) H s1 := inv_start S hr.hd e0 hl r x
  refine wpAny_mono (ht.run [] s1 (start N vs) H _ I hq) (fun fl s' hs => ?_) fun e s' hs => hs
  have fin : ∀ {σ' : L2.St} {H' : Hp} {v : V} {u : Value}, Inv (cxOf CX P w K mg base N qual scope f cdv A outer s H E) [] σ' H' s' → RelV v u → Q v H' → CE outer P w H s Q u s' :=
    fun {σ' H' v u} J rv q => ⟨v, H', J.os, J.bare, J.base, J.hok, rv, q⟩
  cases fl with
  | ret u =>
    obtain ⟨v, σ', H', J, rv, q⟩ := hs
    exact fin J rv q
  | next =>
    obtain ⟨σ', H', J, q⟩ := hs
    exact fin (v := V.non) (u := Value.none) J rfl q
  | brk =>
    obtain ⟨_, _, _, q⟩ := hs
    exact False.elim q
  | cont =>
    obtain ⟨_, _, _, q⟩ := hs
    exact False.elim q
/-- the same within an except suite -/
theorem fund_okH {CX : CXT} {N ps : List Str} {k : Nat} {sp : Sp} (F : FunD K x qual params body scope dvs kws f fd) (S : FnScope N ps scope) (len : ∀ vs H Q E, sp vs H Q E → vs.length = ps.length)
    (hbody : ∀ (cdv : Value) (A : Around) (outer : List Env) (s : Shared) (H : Hp) (vs : List V) (Q : VK) (E : XK) (p : Addr × Obj), L2H.Hot1 A p → L2H.RoomH k (A.deeper (envOfC qual scope s.heap.objs.size f cdv)) → sp vs H Q E →
      ∃ t, PSs (L2H.cxH CX P w K mg base N qual scope f cdv A outer s H E p) body t ∧ t { nx := fun _ H' => Q .non H', rt := Q } (start N vs) H) : L2H.FnH P w K mg base CX (k + 1) f fd ps sp := by
  obtain ⟨oc, od, dV, kV, doc, pm, an, cdv, ct, osl, rfl, lk, hcd, _, _⟩ := F.ex
  exact L2H.fn_ofH lk hcd S len fun A outer s H vs Q E p hot hr hsp => hbody cdv A outer s H vs Q E p hot hr hsp
end
section
variable {X : Cx} {CX : CXT} {k : Nat} {f C : Addr} {fd : FuncData} {ps : List Str} {sp : Sp} {E : L2.St → XK} {x m : Str} {p pos apos : Pos} {o : Expr} {es : List Expr} {t : TA} {ta : TE}
theorem run_fnG {pins : List (Addr × Obj)} {σ : L2.St} {H : Hp} {s : Shared} {Q : VK} {us : List Value} {vs : List V} (F : FnG X.prog X.w X.K X.mg X.base CX k f fd ps sp) (hr : Room k X.A) (hgd : X.A.guards = some []) (hb : Binds X.K fd ps []) (hx : PassesAt CX X σ (E σ))
    (I : Inv X pins σ H s) (r : Vals vs us) (h : sp vs H Q (E σ)) : wpAny (model X.prog X.w) X.A (call (.ref f) us) (EP X pins σ Q) X.xe s := by
  have hl : us.length = ps.length := by rw [← r.length]; exact F.len _ _ _ _ h
  have b := hb s us I.kIn (by rw [List.append_nil]; exact hl)
  rw [List.append_nil] at b
  refine wpAny_call (codeAny_mono (F.run X.A X.stack s H ⟨us, []⟩ us vs Q (E σ) hr hgd I.env0 b r h) fun r s' hq => ?_)
  cases r with
  | error e => exact hx pins H s e s' I hq
  | ok fl =>
    cases fl with
    | ret u => exact I.after hq
    | next => exact False.elim hq
    | brk => exact False.elim hq
    | cont => exact False.elim hq
def tCallG (sp : Sp) (E : L2.St → XK) (t : TA) : TE := fun σ H Q => t σ H fun vs H1 => sp vs H1 Q (E σ)
theorem pe_callG {e : Expr} (F : FnG X.prog X.w X.K X.mg X.base CX k f fd ps sp) (hr : Room k X.A) (hgd : X.A.guards = some []) (hg : Gl X x) (hm : X.mg x = some (.ref f)) (hk : PySem.W.keepIn X.K (.ref f) = true) (hb : Binds X.K fd ps []) (hx : ∀ σ, PassesAt CX X σ (E σ))
    (ha : PA X (e :: es) t) (hdb : (x == ("__debug__" : Str)) = false) (he : starEach (e :: es) X.env = (false, eval e X.env) :: starEach es X.env) (hpl : (backTo pos (starEach es X.env)).any (·.1) = false) :
    PE X (.Call (.Name x p) (e :: es) [] pos) (tCallG sp E t) := by
  refine ⟨fun pins s σ H Q I h => ?_⟩
  refine wpAny_Call_Name_kw (ld_glob I hg hm ?_ hdb)
  refine PySem.W.callWith_K (h₀ := X.base) I.ok.mod.kin hk (thn (ha.run pos pins s σ H _ I h) fun us s1 ⟨vs, H1, I1, r, q⟩ => ⟨I1.kIn, ?_⟩) he hpl
  exact run_fnG F hr hgd hb (hx σ) I1 r q
theorem pe_callG0 (F : FnG X.prog X.w X.K X.mg X.base CX k f fd ps sp) (hr : Room k X.A) (hgd : X.A.guards = some []) (hg : Gl X x) (hm : X.mg x = some (.ref f)) (hk : PySem.W.keepIn X.K (.ref f) = true) (hb : Binds X.K fd ps []) (hx : ∀ σ, PassesAt CX X σ (E σ))
    (hdb : (x == ("__debug__" : Str)) = false) : PE X (.Call (.Name x p) [] [] pos) (tCallG sp E tNil) := by
  refine ⟨fun pins s σ H Q I h => ?_⟩
  refine wpAny_Call_Name_kw (ld_glob I hg hm ?_ hdb)
  exact PySem.W.callWith_K0 I.kIn hk (run_fnG (us := []) F hr hgd hb (hx σ) I .nil h)
/-! ### methods -/
theorem mtree {xs : List Expr} {cpos : Pos} {env : Env} (hb : attributeBase o m env (eval o env) = eval o env) (hfew : ((backTo cpos (starEach xs env)).all (fun x => !x.1) && (backToKw cpos (keywordEach [] env)).all (fun x => x.1.isSome)
      && decide (xs.length + ([] : List Keyword).length + (if ([] : List Keyword).isEmpty then 0 else 1) < 30)) = true) (hline : (apos.endLine == cpos.line) = true) :
    eval (.Call (.Attribute o m apos) xs [] cpos) env = (do
      let ov ← eval o env
      standAt apos.atName
      let (f, first) ← holding [ov] (getMethod ov m (do return (← importBound o env).getD true))
      callWith cpos f first (backTo cpos (starEach xs env)) (backToKw cpos (keywordEach [] env))) := by
  rw [arm_eval_Call, hb]
  have hform : methodCallForm (xs.length + ([] : List Keyword).length) (backTo cpos (starEach xs env)) (backToKw cpos (keywordEach [] env)) = true := hfew
  have hpos : methodCallPos true o env apos cpos = pure cpos := by unfold methodCallPos; simp [hline]
  unfold methodCall
  rw [hform, hpos]
  simp only [calleeOf, if_true, pure_bind]
def tMethG (C : Addr) (m : Str) (sp : Sp) (E : L2.St → XK) (ta : TE) (t : TA) : TE := fun σ H Q => ta σ H fun x H1 => ∃ a dx fs, x = .ref a ∧ H1 a = some (.ins C dx fs) ∧ fs.lookup m = none ∧ t σ H1 fun vs H2 => sp (x :: vs) H2 Q (E σ)
theorem pe_methG {e : Expr} (he : PE X o ta) (c : Cls X.K C) (hm : Meth X.K C m f) (F : FnG X.prog X.w X.K X.mg X.base CX k f fd ps sp) (hr : Room k X.A) (hgd : X.A.guards = some []) (hb : Binds X.K fd ps []) (hx : ∀ σ, PassesAt CX X σ (E σ)) (ha : PA X (e :: es) t)
    (hst : starEach (e :: es) X.env = (false, eval e X.env) :: starEach es X.env) (hpl : (backTo pos (starEach es X.env)).any (·.1) = false)
    (ht : eval (.Call (.Attribute o m apos) (e :: es) [] pos) X.env = (do
      let ov ← eval o X.env
      standAt apos.atName
      let (f, first) ← holding [ov] (getMethod ov m (do return (← importBound o X.env).getD true))
      callWith pos f first (backTo pos (starEach (e :: es) X.env)) (backToKw pos (keywordEach [] X.env)))) :
    PE X (.Call (.Attribute o m apos) (e :: es) [] pos) (tMethG C m sp E ta t) := by
  refine ⟨fun pins s σ H Q I h => ?_⟩
  refine PySem.W.methodCall_KW (thn (he.run pins s σ H _ I h) fun u s1 ⟨x, H1, I1, rx, a, dx, fs, ex, ea, l, q⟩ => ?_) ht
  subst ex
  obtain rfl : u = Value.ref a := rx
  refine getmeth_ok I1 ea c hm l ?_
  refine PySem.W.callWith_K (first := [.ref a]) (h₀ := X.base) I.ok.mod.kin hm.kp (thn (ha.run pos pins s1 σ H1 _ I1 q) fun us s2 ⟨vs, H2, I2, r, q2⟩ => ⟨I2.kIn, ?_⟩) hst hpl
  exact run_fnG (us := .ref a :: us) (vs := .ref a :: vs) F hr hgd hb (hx σ) I2 (.cons rfl r) q2
theorem pe_methG0 (he : PE X o ta) (c : Cls X.K C) (hm : Meth X.K C m f) (F : FnG X.prog X.w X.K X.mg X.base CX k f fd ps sp) (hr : Room k X.A) (hgd : X.A.guards = some []) (hb : Binds X.K fd ps []) (hx : ∀ σ, PassesAt CX X σ (E σ))
    (ht : eval (.Call (.Attribute o m apos) [] [] pos) X.env = (do
      let ov ← eval o X.env
      standAt apos.atName
      let (f, first) ← holding [ov] (getMethod ov m (do return (← importBound o X.env).getD true))
      callWith pos f first (backTo pos (starEach [] X.env)) (backToKw pos (keywordEach [] X.env)))) :
    PE X (.Call (.Attribute o m apos) [] [] pos) (tMethG C m sp E ta tNil) := by
  refine ⟨fun pins s σ H Q I h => ?_⟩
  refine PySem.W.methodCall_KW (thn (he.run pins s σ H _ I h) fun u s1 ⟨x, H1, I1, rx, a, dx, fs, ex, ea, l, q⟩ => ?_) ht
  subst ex
  obtain rfl : u = Value.ref a := rx
  refine getmeth_ok I1 ea c hm l ?_
  exact PySem.W.callWith_K0 (first := [.ref a]) I1.kIn hm.kp (run_fnG (us := [.ref a]) (vs := [.ref a]) F hr hgd hb (hx σ) I1 (.cons rfl .nil) q)
/-! ### makers -/
theorem run_makeG {pins : List (Addr × Obj)} {σ : L2.St} {H : Hp} {s : Shared} {Q : VK} {us : List Value} {vs : List V} (M : Mk X.K C f) (F : FnG X.prog X.w X.K X.mg X.base CX k f fd ps sp) (hr : Room (k + 1) X.A) (hgd : X.A.guards = some []) (hb : Binds X.K fd ps [])
    (hx : PassesAt CX X σ (E σ)) (I : Inv X pins σ H s) (r : Vals vs us)
    (h : ∀ x dx, H x = none → H dx = none → dx ≠ x → sp (.ref x :: vs) (upd (upd H dx (.own x)) x (.ins C dx [])) (fun v H2 => v = .non ∧ Q (.ref x) H2) (E σ)) :
    wpAny (model X.prog X.w) X.A (call (.ref C) us) (EP X pins σ Q) X.xe s := by
  have hq := h (s.heap.objs.size + 1) s.heap.objs.size (I.hok.fresh (Nat.le_succ _)) (I.hok.fresh (Nat.le_refl _)) (Nat.ne_of_lt (Nat.lt_succ_self _))
  have I2 := Inv.made (C := C) I
  have r2 : Vals (V.ref (s.heap.objs.size + 1) :: vs) (Value.ref (s.heap.objs.size + 1) :: us) := .cons rfl r
  have hl : (Value.ref (s.heap.objs.size + 1) :: us).length = ps.length := by
    have e := r2.length
    rw [F.len _ _ _ _ hq] at e
    exact e.symm
  have b := hb _ (Value.ref (s.heap.objs.size + 1) :: us) I2.kIn (by rw [List.append_nil]; exact hl)
  rw [List.append_nil] at b
  refine wpAny_call (make_map (f := f) I.kIn M.makes M.init (beq_iff_eq.mp M.fn) (codeAny_mono (F.run _ X.stack _ _ ⟨Value.ref (s.heap.objs.size + 1) :: us, []⟩ (Value.ref (s.heap.objs.size + 1) :: us) _ _ (E σ) (hr.make C us []) (by rw [guards_make]; exact hgd)
    (I2.env0.make C us []) b r2 hq) fun r s' hq' => ?_))
  cases r with
  | error e => exact hx pins _ _ e s' I2 hq'
  | ok fl =>
    cases fl with
    | ret u =>
      obtain ⟨v, H', I3, rv, ev, q3⟩ := I2.after hq'
      subst ev
      exact ⟨rv, ⟨V.ref (s.heap.objs.size + 1), H', I3, rfl, q3⟩⟩
    | next => exact False.elim hq'
    | brk => exact False.elim hq'
    | cont => exact False.elim hq'
def tMakeG (C : Addr) (sp : Sp) (E : L2.St → XK) (t : TA) : TE := fun σ H Q => t σ H fun vs H1 => ∀ x dx, H1 x = none → H1 dx = none → dx ≠ x →
  sp (.ref x :: vs) (upd (upd H1 dx (.own x)) x (.ins C dx [])) (fun v H2 => v = .non ∧ Q (.ref x) H2) (E σ)
theorem pe_makeG {e : Expr} (M : Mk X.K C f) (F : FnG X.prog X.w X.K X.mg X.base CX k f fd ps sp) (hr : Room (k + 1) X.A) (hgd : X.A.guards = some []) (hg : Gl X x) (hm : X.mg x = some (.ref C)) (hb : Binds X.K fd ps []) (hx : ∀ σ, PassesAt CX X σ (E σ))
    (ha : PA X (e :: es) t) (hdb : (x == ("__debug__" : Str)) = false) (he : starEach (e :: es) X.env = (false, eval e X.env) :: starEach es X.env) (hpl : (backTo pos (starEach es X.env)).any (·.1) = false) :
    PE X (.Call (.Name x p) (e :: es) [] pos) (tMakeG C sp E t) := by
  refine ⟨fun pins s σ H Q I h => ?_⟩
  refine wpAny_Call_Name_kw (ld_glob I hg hm ?_ hdb)
  refine PySem.W.callWith_K (h₀ := X.base) I.ok.mod.kin M.kp (thn (ha.run pos pins s σ H _ I h) fun us s1 ⟨vs, H1, I1, r, q⟩ => ⟨I1.kIn, ?_⟩) he hpl
  exact run_makeG M F hr hgd hb (hx σ) I1 r q
theorem pe_makeG0 (M : Mk X.K C f) (F : FnG X.prog X.w X.K X.mg X.base CX k f fd ps sp) (hr : Room (k + 1) X.A) (hgd : X.A.guards = some []) (hg : Gl X x) (hm : X.mg x = some (.ref C)) (hb : Binds X.K fd ps []) (hx : ∀ σ, PassesAt CX X σ (E σ))
    (hdb : (x == ("__debug__" : Str)) = false) : PE X (.Call (.Name x p) [] [] pos) (tMakeG C sp E tNil) := by
  refine ⟨fun pins s σ H Q I h => ?_⟩
  refine wpAny_Call_Name_kw (ld_glob I hg hm ?_ hdb)
  exact PySem.W.callWith_K0 I.kIn M.kp (run_makeG (us := []) M F hr hgd hb (hx σ) I .nil h)
end
end Z
end

section
/-! ZK: shapes of the text, targets, what is walked. -/
namespace Z
open PySem PySem.Spec PyProof.Rows L2
/-! ### shapes -/
theorem noSet {e : Expr} (h : isSet e = false) (op : CmpOp) : behindInMarks op e = false := by
  cases e <;> simp [isSet] at h <;> simp [behindInMarks]
theorem noFold {e : Expr} (h : isSet e = false) (env : Env) : ∀ x, foldedSetIterable e env x = pure x := by
  intro x
  cases e <;> simp [isSet] at h <;> rfl
theorem star_each {e : Expr} {es : List Expr} {env : Env} (h : isStar e = false) : starEach (e :: es) env = (false, eval e env) :: starEach es env := by
  cases e <;> simp [isStar] at h <;> rfl
theorem star_plain {env : Env} {pos : Pos} : ∀ {es : List Expr}, (es.all fun e => !isStar e) = true → (backTo pos (starEach es env)).any (·.1) = false
  | [], _ => by simp [starEach, backTo]
  | e :: es, h => by
    simp only [List.all_cons, Bool.and_eq_true, Bool.not_eq_true'] at h
    rw [star_each h.1]
    show (false || (backTo pos (starEach es env)).any (·.1)) = false
    rw [star_plain h.2]; rfl
theorem chkEs_star {g : SC} : ∀ {ms : List ME} {es : List Expr}, chkEs g ms es = true → (es.all fun e => !isStar e) = true
  | [], es, h => by
    simp only [chkEs, List.isEmpty_iff] at h
    subst h; rfl
  | m :: ms, [], h => by simp [chkEs] at h
  | m :: ms, e :: es, h => by
    simp only [chkEs, Bool.and_eq_true] at h
    simp only [List.all_cons, Bool.and_eq_true]
    exact ⟨h.1.1, chkEs_star h.2⟩
theorem chkEs_len {g : SC} : ∀ {ms : List ME} {es : List Expr}, chkEs g ms es = true → ms.length = es.length
  | [], es, h => by
    simp only [chkEs, List.isEmpty_iff] at h
    subst h; rfl
  | m :: ms, [], h => by simp [chkEs] at h
  | m :: ms, e :: es, h => by
    simp only [chkEs, Bool.and_eq_true] at h
    simp [chkEs_len h.2]
theorem asg_each {e : Expr} {es : List Expr} {env : Env} (h : isStar e = false) : assignEach (e :: es) env = (false, assign e env) :: assignEach es env := by
  cases e <;> simp [isStar] at h <;> rfl
theorem chkGs_star {g : SC} : ∀ {ms : List MG} {es : List Expr}, chkGs g ms es = true → (es.all fun e => !isStar e) = true ∧ ms.length = es.length
  | [], es, h => by
    simp only [chkGs, List.isEmpty_iff] at h
    subst h; exact ⟨rfl, rfl⟩
  | m :: ms, [], h => by simp [chkGs] at h
  | m :: ms, e :: es, h => by
    simp only [chkGs, Bool.and_eq_true] at h
    obtain ⟨h1, h2⟩ := chkGs_star h.2
    simp only [List.all_cons, Bool.and_eq_true]
    exact ⟨⟨h.1.2, h1⟩, by simp [h2]⟩
theorem asg_len {env : Env} : ∀ {es : List Expr}, (es.all fun e => !isStar e) = true → (assignEach es env).length = es.length ∧ (assignEach es env).findIdx? (·.1) = none
  | [], _ => by simp [assignEach]
  | e :: es, h => by
    simp only [List.all_cons, Bool.and_eq_true, Bool.not_eq_true'] at h
    rw [asg_each h.1]
    obtain ⟨h1, h2⟩ := asg_len (env := env) h.2
    exact ⟨by simp [h1], by simp [List.findIdx?_cons, h2]⟩
theorem noSwap {e : Expr} {t : Option Expr} {l : Nat} {env : Env} (h : isComp e = false) : swapsWith e t l env = pure false := by
  cases e <;> simp [isComp] at h <;> rfl
theorem plainIx {e : Expr} (h : isSlice e = false) : PlainIx e := by
  intro o i
  cases e <;> simp [isSlice] at h <;> rfl
theorem plain_true {e : Expr} {env : Env} (h : plainT e = true) (whole : PySem.Sem Value) : isTrue e env whole = (do let v ← whole; standAt e.pos; holding [v] (truthy v)) := by
  cases e <;> simp [plainT] at h <;> try rfl
  rename_i op x pos
  cases op <;> simp at h <;> rfl

theorem takesN {X : Cx} : L2N.Takes X fun _ _ _ _ => False := fun _ _ x => by
  obtain ⟨_, _, _, _, _, _, _, _, _, _, _, _, _, _, _, _, z⟩ := x
  exact z.elim
/-! ### the context of a body -/
def allBI : List BI := [.len, .abs, .int, .list, .sum, .all, .any, .repr]
theorem allBI_all (b : BI) : b ∈ allBI := by cases b <;> decide
def allTy : List Ty := [.int, .bool, .str, .list, .tuple]
theorem allTy_all (b : Ty) : b ∈ allTy := by cases b <;> decide
def frees : List Str := rangeN :: "isinstance" :: (allBI.map biName ++ allTy.map tyName)
theorem mem_frees_bi (b : BI) : biName b ∈ frees := by
  unfold frees
  exact List.mem_cons_of_mem _ (List.mem_cons_of_mem _ (List.mem_append_left _ (List.mem_map.mpr ⟨b, allBI_all b, rfl⟩)))
theorem mem_frees_ty (t : Ty) : tyName t ∈ frees := by
  unfold frees
  exact List.mem_cons_of_mem _ (List.mem_cons_of_mem _ (List.mem_append_right _ (List.mem_map.mpr ⟨t, allTy_all t, rfl⟩)))
/-- what stands of an error class -/
structure EOk (X : Cx) (T : Tab) (M : Nm) (S : Sem) (k : Nat) (c : Nat) (ei : EI) : Prop where
  adr : X.mg ei.name = some (.ref (M.ead c))
  xf : XfC X.K (M.ead c)
  ec : ExcC X.K (M.ead c)
  no : ∀ q ∈ ei.fl, PySem.W.findIn X.K (.ref (M.ead c)) (M.fnm q.1) = some none
  sub : ∀ (c' : Nat) (ei' : EI), T.errs[c']? = some ei' → PySem.W.exmOne X.K (.ref (M.ead c)) (.ref (M.ead c')) = some (S.sub c c') ∧ PySem.W.kitOne X.K (.ref (M.ead c)) (.ref (M.ead c')) = some (S.sub c c')
  xin : S.xin c = some (ei.np, ei.fl)
  make : (ei.fl = [] ∧ ei.np = 0 ∧ PySem.W.excIn X.K (M.ead c) He.veBase "ValueError.__new__" = true ∧ PySem.W.keepIn X.K (.ref (M.ead c)) = true ∧ Raises X (.ref (M.ead c))) ∨
    (0 < ei.np ∧ ei.np ≤ 100 ∧ OexC X.K (M.ead c) ∧ ∃ fI fd ps j, j + 1 ≤ k ∧ PySem.W.findIn X.K (.ref (M.ead c)) "__init__" = some (some (.ref fI)) ∧ PySem.W.typeIn X.K (.ref fI) = some (.type "function") ∧
      FnOk X.prog X.w X.K X.mg X.base (L2N.CX X.prog X.w) j fI fd ps (spI (M.ead c) (ei.fl.map fun q => (M.fnm q.1, q.2)) ei.np) ∧ Binds X.K fd ps [])
/-- the error that the clause around names -/
def CurOk (X : Cx) (M : Nm) (exn : Option Nat) : Prop := match exn with
  | none => M.cur = none
  | some i => ∃ (X0 : Cx) (a : Addr) (oe : Obj) (cls : Value) (d : Option Addr) (pn : List (Addr × Obj)), X = X0.suite a ((a, oe) :: pn) ∧ M.cur = some (i, a, cls, d) ∧ Zc cls d oe ∧ ∃ vs, oe.data = .fields vs
/-- what stands of a class -/
structure COk (X : Cx) (M : Nm) (S : Sem) (k : Nat) (c : Nat) (ci : CI) : Prop where
  adr : X.mg ci.name = some (.ref (M.cad c))
  cl : Cls X.K (M.cad c)
  no : ∀ f ∈ ci.fields, NoAttr X.K (M.cad c) (M.fnm f)
  meth : ∀ (m : Str) (f n : Nat), (m, f, n) ∈ ci.meths → ∃ (a : Addr) (fd : FuncData) (ps : List Str), Meth X.K (M.cad c) m a ∧ FnG X.prog X.w X.K X.mg X.base (L2N.CX X.prog X.w) k a fd ps (spOf M X.K (S.cal f) n) ∧ Binds X.K fd ps []
  make : ∀ (f n : Nat), (("__init__" : Str), f, n) ∈ ci.meths → ∃ (a : Addr) (fd : FuncData) (ps : List Str) (j : Nat), j + 1 ≤ k ∧ Mk X.K (M.cad c) a ∧ FnG X.prog X.w X.K X.mg X.base (L2N.CX X.prog X.w) j a fd ps (spOf M X.K (S.cal1 f) n) ∧ Binds X.K fd ps []
structure Cok (X : Cx) (g : SC) (M : Nm) (S : Sem) (W : WX) (k : Nat) : Prop where
  N : X.N = g.N
  sc : X.env.scope = g.sc
  fn : ∀ x, g.fn x = true → X.fn x = true
  nd : X.N.Nodup
  calm : g.hot = false → X.calm = true
  hr : g.hot = false → Room k X.A
  hrH : g.hot = true → L2H.RoomH k X.A
  hotc : g.hot = true → L2H.HotC X
  un : room2 X
  gd : g.hot = false → X.A.guards = some []
  gdx : g.exn.isSome = true → X.A.guards = some []
  fr : ∀ x ∈ frees, X.mg x = none
  glb : ∀ (i : Nat) (x : Str) (p : PV), g.T.glbs[i]? = some x → S.glb i = some p → ∃ u v, X.mg x = some u ∧ L2.RelV v u ∧ flat p = true ∧ RP X.K (fun _ => none) p v
  callsH : ∀ (f : Nat) (x : Str) (n : Nat), g.T.defs[f]? = some (some x, n) → g.T.hots.contains f = true → ∃ (a : Addr) (fd : FuncData) (ps : List Str), L2H.FnH X.prog X.w X.K X.mg X.base (L2N.CX X.prog X.w) k a fd ps (spOf M X.K (S.cal f) n) ∧ X.mg x = some (.ref a) ∧
    PySem.W.keepIn X.K (.ref a) = true ∧ Binds X.K fd ps []
  calls : g.hot = false → ∀ (f : Nat) (x : Str) (n : Nat), g.T.defs[f]? = some (some x, n) → ∃ (a : Addr) (fd : FuncData) (ps : List Str), FnG X.prog X.w X.K X.mg X.base (L2N.CX X.prog X.w) k a fd ps (spOf M X.K (S.cal f) n) ∧ X.mg x = some (.ref a) ∧
    PySem.W.keepIn X.K (.ref a) = true ∧ Binds X.K fd ps []
  errs : ∀ (c : Nat) (ei : EI), g.T.errs[c]? = some ei → EOk X g.T M S k c ei
  cls : ∀ (c : Nat) (ci : CI), g.T.cls[c]? = some ci → COk X M S k c ci
  nf : S.nf ≤ g.T.fnames.length
  xerr : ∀ (c : Nat), S.xin c ≠ none → ∃ ei, g.T.errs[c]? = some ei
  finj : ∀ f f', M.fnm f = M.fnm f' → f = f'
  fname : ∀ (f : Nat) (x : Str), g.T.fnames[f]? = some x → M.fnm f = x
  cur : CurOk X M g.exn
  cold : g.hot = false → g.exn = none
  stk : g.top = true → X.stack = X.env :: X.outer
  frm : g.top = true → X.env.frame = some X.env.locals
  takes : L2N.Takes X W
  pass : PassesOwn (model X.prog X.w) X.A X.env X.xe
section
variable {X : Cx} {g : SC} {M : Nm} {S : Sem} {W : WX} {k : Nat}
theorem Cok.bi (C : Cok X g M S W k) (b : BI) : X.mg (biName b) = none := C.fr _ (mem_frees_bi b)
theorem Cok.bt (C : Cok X g M S W k) (t : Ty) : X.mg (tyName t) = none := C.fr _ (mem_frees_ty t)
theorem Cok.br (C : Cok X g M S W k) : X.mg rangeN = none := C.fr _ (by unfold frees; exact List.mem_cons_self)
theorem Cok.bis (C : Cok X g M S W k) : X.mg "isinstance" = none := C.fr _ (by unfold frees; exact List.mem_cons_of_mem _ List.mem_cons_self)
theorem Cok.gl (C : Cok X g M S W k) {x : Str} (h : gl? g x = true) : Gl X x ∧ (x == ("__debug__" : Str)) = false := by
  simp only [gl?, Bool.and_eq_true, decide_eq_true_eq, Bool.not_eq_true'] at h
  exact ⟨show X.env.scope.names.lookup x = _ by rw [C.sc]; exact h.1, h.2⟩
theorem Cok.vis (C : Cok X g M S W k) {x : Str} (h : vis? g x = true) : Vis X.env.scope x ∧ (x == ("__debug__" : Str)) = false ∧ (x == ("__classdict__" : Str)) = false := by
  simp only [vis?, Bool.and_eq_true, Bool.not_eq_true'] at h
  refine ⟨?_, h.1.2, h.2⟩
  have h1 := h.1.1
  unfold Vis
  rw [C.sc]
  split at h1
  · exact .inl (by assumption)
  · exact .inr (.inl (by assumption))
  · exact .inr (.inr (by assumption))
  · cases h1
theorem Cok.loc (C : Cok X g M S W k) {x : Str} (h : loc? g x = true) : L2.Loc X.env.scope x ∧ (X.fn x = true ∨ X.env.scope.names.lookup x = some .local) := by
  unfold loc? at h
  unfold L2.Loc
  rw [C.sc]
  split at h
  · exact ⟨.inl (by assumption), .inr (by assumption)⟩
  · exact ⟨.inr (by assumption), .inl (C.fn x h)⟩
  · cases h

/-! ### targets -/
theorem wipe_get (σ : L2.St) (i : Nat) : ∀ vs : List Nat, (wipe σ vs)[i]? = if i ∈ vs then (if i < σ.length then some none else none) else σ[i]?
  | [] => by simp [wipe]
  | v :: vs => by
    have ih := wipe_get σ i vs
    unfold wipe
    by_cases hv : v = i
    · subst hv
      rw [if_pos List.mem_cons_self]
      by_cases hl : v < σ.length
      · rw [if_pos hl, List.getElem?_set_self (by rw [wipe_length]; exact hl)]
      · rw [if_neg hl, List.getElem?_eq_none (by rw [List.length_set, wipe_length]; omega)]
    · rw [List.getElem?_set_ne hv, ih]
      have : (i ∈ v :: vs) ↔ i ∈ vs := by
        rw [List.mem_cons]
        exact ⟨fun h => h.elim (fun e => absurd e.symm hv) (fun x => x), .inr⟩
      by_cases hm : i ∈ vs
      · rw [if_pos hm, if_pos (this.mpr hm)]
      · rw [if_neg hm, if_neg (fun h => hm (this.mp h))]
theorem wipe_eq {σ τ : L2.St} {vs : List Nat} (hl : σ.length = τ.length) (h : ∀ i, i ∉ vs → σ[i]? = τ[i]?) : wipe σ vs = wipe τ vs := by
  apply List.ext_getElem?
  intro i
  rw [wipe_get, wipe_get, hl]
  split
  · rfl
  · exact h i (by assumption)
theorem wipe_set {σ : L2.St} {i : Nat} {x : Option V} {vs : List Nat} (h : i ∈ vs) : wipe (σ.set i x) vs = wipe σ vs :=
  wipe_eq (by simp) fun j hj => List.getElem?_set_ne fun e : i = j => hj (by rw [← e]; exact h)
theorem wipe_wipe {σ : L2.St} {vs : List Nat} : wipe (wipe σ vs) vs = wipe σ vs :=
  wipe_eq (wipe_length σ vs) fun i hi => by rw [wipe_get, if_neg hi]
theorem wipeL_get (φ : Slots) (i : Nat) : ∀ vs : List Nat, (wipeL φ vs)[i]? = if i ∈ vs then (if i < φ.length then some none else none) else φ[i]?
  | [] => by simp [wipeL]
  | v :: vs => by
    have ih := wipeL_get φ i vs
    have wl : ∀ vs : List Nat, (wipeL φ vs).length = φ.length := by
      intro vs
      induction vs with
      | nil => rfl
      | cons v vs ih => unfold wipeL; rw [List.length_set, ih]
    unfold wipeL
    by_cases hv : v = i
    · subst hv
      rw [if_pos List.mem_cons_self]
      by_cases hl : v < φ.length
      · rw [if_pos hl, List.getElem?_set_self (by rw [wl]; exact hl)]
      · rw [if_neg hl, List.getElem?_eq_none (by rw [List.length_set, wl]; omega)]
    · rw [List.getElem?_set_ne hv, ih]
      have : (i ∈ v :: vs) ↔ i ∈ vs := by
        rw [List.mem_cons]
        exact ⟨fun h => h.elim (fun e => absurd e.symm hv) (fun x => x), .inr⟩
      by_cases hm : i ∈ vs
      · rw [if_pos hm, if_pos (this.mpr hm)]
      · rw [if_neg hm, if_neg (fun h => hm (this.mp h))]
theorem wipeL_length (φ : Slots) : ∀ vs : List Nat, (wipeL φ vs).length = φ.length
  | [] => rfl
  | v :: vs => by unfold wipeL; rw [List.length_set, wipeL_length φ vs]
theorem SL.wipe {K : PySem.W.Frag} {F : Hp} {ρ : List Addr} {σ : L2.St} {φ : Slots} (h : SL M K F ρ σ φ) (vs : List Nat) : SL M K F ρ (wipe σ vs) (wipeL φ vs) := by
  refine ⟨by rw [wipe_length, wipeL_length]; exact h.1, fun i x hx => ?_⟩
  rw [wipeL_get] at hx
  rw [wipe_get]
  split at hx
  · split at hx
    · cases hx
    · cases hx
  · rename_i hm
    rw [if_neg hm]
    exact h.2 i x hx
def Ownly (is : List Nat) (σ σ' : L2.St) : Prop := ∀ vs : List Nat, (∀ i ∈ is, i ∈ vs) → wipe σ' vs = wipe σ vs
def RdG (M : Nm) (K : PySem.W.Frag) (t : TG) (m : MG) : Prop := ∀ x v φ φ' σ F ρ H st Q, HR' M K F ρ H st → SL M K F ρ σ φ → RL K F ρ x v → asgG m x φ = some φ' → (∀ σ', SL M K F ρ σ' φ' → Ownly (slotsG m) σ σ' → Q σ' H) → t v σ H Q
def RdGs (M : Nm) (K : PySem.W.Frag) (t : TGs) (m : List MG) : Prop := ∀ xs vs φ φ' σ F ρ H st Q, HR' M K F ρ H st → SL M K F ρ σ φ → RLs K F ρ xs vs → asgGs m xs φ = some φ' → (∀ σ', SL M K F ρ σ' φ' → Ownly (slotsGs m) σ σ' → Q σ' H) → t vs σ H Q
theorem pg_or {tg : Expr} {t t' : TG} (h : PG X tg t) (h' : PG X tg t') : PG X tg (fun v σ H Q => t v σ H Q ∨ t' v σ H Q) := ⟨fun pins s σ H v u Q I r q => by
  rcases q with q | q
  · exact h.run pins s σ H v u Q I r q
  · exact h'.run pins s σ H v u Q I r q⟩
mutual
theorem tgt (C : Cok X g M S W k) : ∀ (m : MG) (e : Expr), chkG g m e = true → ∃ t, PG X e t ∧ RdG M X.K t m
  | .nm i, e, h => by
    cases e <;> simp only [chkG, Bool.and_eq_true, decide_eq_true_eq, reduceCtorEq] at h
    obtain ⟨hl, hf⟩ := C.loc h.2
    refine ⟨_, pg_name (i := i) C.nd (by rw [C.N]; exact h.1) hl hf, ?_⟩
    intro x v φ φ' σ F ρ H st Q hh hs r e q
    simp only [asgG, Option.some.injEq] at e
    subst e
    exact q _ (hs.set i r) fun vs hv => wipe_set (hv i (by simp [slotsG]))
  | .tp ms, e, h => by
    cases e <;> simp only [chkG, Bool.and_eq_true, Bool.not_eq_true', Bool.false_eq_true] at h
    rename_i es kk pos
    obtain ⟨hhot, h⟩ := h
    obtain ⟨t, ht, hr⟩ := tgts C ms es h
    obtain ⟨h1, h2⟩ := chkGs_star h
    obtain ⟨l1, l2⟩ := asg_len (env := X.env) h1
    refine ⟨_, pg_or (pg_tup (C.calm hhot) ht rfl l2) (pg_lst (C.calm hhot) ht rfl l2), ?_⟩
    intro x v φ φ' σ F ρ H st Q hh hs r e q
    have len : ∀ (ms : List MG) (xs : List LV) (φ φ' : Slots), asgGs ms xs φ = some φ' → xs.length = ms.length := by
      intro ms
      induction ms with
      | nil => intro xs φ φ' e; cases xs <;> simp [asgGs] at e ⊢
      | cons m ms ih =>
        intro xs φ φ' e
        cases xs with
        | nil => simp [asgGs] at e
        | cons x xs =>
          unfold asgGs at e
          split at e
          · simp [ih _ _ _ e]
          · cases e
    have go : ∀ (xs : List LV) (vs : List V), RLs X.K F ρ xs vs → asgGs ms xs φ = some φ' → vs.length = (assignEach es X.env).length ∧ t vs σ H Q := fun xs vs rl e => by
      refine ⟨by rw [l1, ← rl.length, len _ _ _ _ e, h2], ?_⟩
      exact hr xs vs φ φ' σ F ρ H st Q hh hs rl e fun σ1 h1 h2 => q σ1 h1 (by simpa only [slotsG] using h2)
    cases x with
    | ref n => simp [asgG] at e
    | exn _ => simp [asgG] at e
    | tup xs =>
      simp only [asgG] at e
      simp only [RL] at r
      obtain ⟨a, vs, e1, e2, e3⟩ := r
      obtain ⟨g1, g2⟩ := go xs vs e3 e
      exact .inl ⟨a, vs, e1, .inl (.inl (hh.sub _ _ e2)), g1, g2⟩
    | pv p =>
      cases p <;> simp only [asgG, reduceCtorEq] at e
      · simp only [RL, RP] at r
        obtain ⟨a, vs, e1, e2, e3⟩ := r
        obtain ⟨g1, g2⟩ := go _ vs (RLs_pv.mpr e3) e
        exact .inl ⟨a, vs, e1, .inl (.inl (hh.sub _ _ e2)), g1, g2⟩
      · simp only [RL, RP] at r
        obtain ⟨a, vs, e1, e2, e3⟩ := r
        obtain ⟨g1, g2⟩ := go _ vs (RLs_pv.mpr e3) e
        exact .inr ⟨a, vs, e1, .inl (.inl (hh.sub _ _ e2)), g1, g2⟩
theorem tgts (C : Cok X g M S W k) : ∀ (ms : List MG) (es : List Expr), chkGs g ms es = true → ∃ t, PGs X es t ∧ RdGs M X.K t ms
  | [], es, h => by
    simp only [chkGs, List.isEmpty_iff] at h
    subst h
    refine ⟨_, pgs_nil, ?_⟩
    intro xs vs φ φ' σ F ρ H st Q hh hs r e q
    cases xs with
    | nil =>
      simp only [asgGs, Option.some.injEq] at e
      subst e
      simp only [RLs] at r
      exact ⟨r, q σ hs fun _ _ => rfl⟩
    | cons _ _ => simp [asgGs] at e
  | m :: ms, [], h => by simp [chkGs] at h
  | m :: ms, e :: es, h => by
    simp only [chkGs, Bool.and_eq_true, Bool.not_eq_true'] at h
    obtain ⟨t, ht, hr⟩ := tgt C m e h.1.1
    obtain ⟨t', ht', hr'⟩ := tgts C ms es h.2
    refine ⟨_, pgs_cons ht ht' (by rw [asg_each h.1.2]; rfl), ?_⟩
    intro xs vs φ φ' σ F ρ H st Q hh hs r e q
    cases xs with
    | nil => simp [asgGs] at e
    | cons x xs =>
      simp only [RLs] at r
      obtain ⟨v, r', e1, e2, e3⟩ := r
      unfold asgGs at e
      split at e
      · rename_i φ1 e4
        refine ⟨v, r', e1, hr x v φ φ1 σ F ρ H st _ hh hs e2 e4 fun σ1 hs1 o1 => ?_⟩
        exact hr' xs r' φ1 φ' σ1 F ρ H st Q hh hs1 e3 e fun σ2 hs2 o2 => q σ2 hs2 fun us hu => by
          rw [o2 us fun i hi => hu i (by simp [slotsGs, hi]), o1 us fun i hi => hu i (by simp [slotsGs, hi])]
      · cases e
end
end
end Z
end

section
/-! ZL: lists of expressions, what is walked. -/
namespace Z
open PySem PySem.Spec PyProof.Rows L2
section
variable (X : Cx) (M : Nm) (S : Sem) (W : WX)
def SE (m : ME) (e : Expr) : Prop := ∃ t, PE X e t ∧ RdE M X.K W t (evE S m)
def ST (m : MT) (e : Expr) : Prop := ∃ t, PT X e t ∧ RdT M X.K W t (evT S m)
def SEs : List ME → List Expr → Prop
  | [], es => es = []
  | m :: ms, es => ∃ e r, es = e :: r ∧ isStar e = false ∧ SE X M S W m e ∧ SEs ms r
def STs : List MT → List Expr → Prop
  | [], es => es = []
  | m :: ms, es => ∃ e r, es = e :: r ∧ ST X M S W m e ∧ STs ms r
end
section
variable {X : Cx} {M : Nm} {S : Sem} {W : WX}
theorem SEs.pa : ∀ {ms : List ME} {es : List Expr}, SEs X M S W ms es → ∃ t, PA X es t ∧ RdA M X.K W t (evEs S ms)
  | [], es, h => by
    have h' : es = [] := h
    subst h'
    refine ⟨_, pa_nil, ?_⟩
    intro σ H Q φ F ρ st r hh hs e p
    simp only [evEs, Option.some.injEq] at e
    subst e
    exact p F ρ H [] (G.refl F ρ H) hh (by simp only [RLs])
  | m :: ms, es, h => by
    obtain ⟨e, r, h1, h2, ⟨t, h3, h4⟩, h5⟩ := h
    subst h1
    obtain ⟨t', h6, h7⟩ := SEs.pa h5
    refine ⟨_, pa_cons h3 h6 (star_each h2), ?_⟩
    intro σ H Q φ F ρ st res hh hs e p
    simp only [evEs] at e
    refine h4.bindA hh hs e p fun x st1 F1 ρ1 H1 v e1 g1 h1 r1 p1 => ?_
    refine h7.bindA h1 (hs.g g1) e1 p1 fun xs st2 F2 ρ2 H2 vs e2 g2 h2 r2 p2 => ?_
    simp only [Option.some.injEq] at e2
    subst e2
    exact p2 F2 ρ2 H2 (v :: vs) (G.refl F2 ρ2 H2) h2 (by
      simp only [RLs]
      exact ⟨v, vs, rfl, RL.mono g2.sub g2.pre _ _ r1, r2⟩)
theorem SEs.star : ∀ {ms : List ME} {es : List Expr}, SEs X M S W ms es → (es.all fun e => !isStar e) = true
  | [], es, h => by
    have h' : es = [] := h
    subst h'; rfl
  | m :: ms, es, h => by
    obtain ⟨e, r, h1, h2, _, h5⟩ := h
    subst h1
    simp [h2, SEs.star h5]
theorem SEs.len : ∀ {ms : List ME} {es : List Expr}, SEs X M S W ms es → ms.length = es.length
  | [], es, h => by
    have h' : es = [] := h
    subst h'; rfl
  | m :: ms, es, h => by
    obtain ⟨e, r, h1, h2, _, h5⟩ := h
    subst h1
    simp [SEs.len h5]
end

/-! ### what is walked -/
/-- an iterator over trees that lie in F -/
structure ItOk (K : PySem.W.Frag) (J : It) (xs : List PV) (F : Hp) : Prop where
  at_ : ∀ (i : Nat) (p : PV) (F' H' : Hp), xs[i]? = some p → Sub F F' → Sub F' H' → J.go i H' ∧ ∀ x H'', J.yld i H' x H'' → (H'' = H' ∧ RP K F' p x) ∨ ∃ T o, H' T = none ∧ H'' = upd H' T o ∧ RP K (upd F' T o) p x
  stop : ∀ F' H', Sub F F' → Sub F' H' → J.stop xs.length H'
def iSeq (K : PySem.W.Frag) (tl : TE) : TI := fun σ H R => tl σ H fun x H1 => ∃ a, x = .ref a ∧ (((∃ xs, SqL K H1 a xs) ∧ R (Itl K a) H1) ∨ ((∃ xs, SqT K H1 a xs) ∧ R (Itt K a) H1))
section
variable {X : Cx} {tg : Expr}
theorem pi_seq {l : Expr} {tl : TE} (hl : PE X l tl) : PI X tg l (iSeq X.K tl) := by
  refine ⟨fun pins s σ H R I h => ?_⟩
  refine thn (hl.run pins s σ H _ I h) fun v s1 ⟨x, H1, I1, r1, q1⟩ => ?_
  obtain ⟨a, e, q⟩ := q1
  subst e
  cases r1
  rcases q with ⟨⟨xs, hq⟩, q⟩ | ⟨⟨xs, hq⟩, q⟩
  · obtain ⟨its, rv, p, hz⟩ := I1.list hq
    refine wpAny_pyIter_list p.isList ?_
    refine ⟨s1.heap.objs.size, [s1.heap.objs.size], _, _, H1, rfl, I1.kept (t' := s1.toks) fun b o e => Heap.get?_push_of_some _ e, turn_list a _, ⟨_, Heap.get?_push_size _ rfl, rfl, rfl⟩, fun b hb => ?_, q⟩
    have e : b = s1.heap.objs.size := by simpa using hb
    subst e
    exact I1.fpOk (Nat.le_refl _) (I1.hok.fresh (Nat.le_refl _))
  · obtain ⟨its, rv, p, hz⟩ := I1.tuple hq
    refine wpAny_pyIter_tuple (show s1.heap.IsTuple a its.toArray from p) ?_
    refine ⟨s1.heap.objs.size, [s1.heap.objs.size], _, _, H1, rfl, I1.kept (t' := s1.toks) fun b o e => Heap.get?_push_of_some _ e, turn_tuple a _, ⟨_, Heap.get?_push_size _ rfl, rfl, rfl⟩, fun b hb => ?_, q⟩
    have e : b = s1.heap.objs.size := by simpa using hb
    subst e
    exact I1.fpOk (Nat.le_refl _) (I1.hok.fresh (Nat.le_refl _))
end
section
variable {K : PySem.W.Frag} {F F' H H' : Hp}
theorem it_list {a : Addr} {vs : List V} {xs : List PV} (h : F a = some (.lst vs)) (r : RPs K F xs vs) : ItOk K (Itl K a) xs F := by
  refine ⟨fun i p F' H' e s s' => ?_, fun F' H' s s' => ⟨vs, .inl (.inl (s' _ _ (s _ _ h))), by rw [r.length]; exact Nat.le_refl _⟩⟩
  have hq : SqL K H' a vs := .inl (.inl (s' _ _ (s _ _ h)))
  obtain ⟨v, e1, e2⟩ := r.get e
  refine ⟨⟨vs, v, hq, e1⟩, fun x H'' y => .inl ⟨y.1, ?_⟩⟩
  have := y.2 vs hq
  rw [e1] at this
  cases this
  exact RP.mono s _ _ e2
theorem it_tup {a : Addr} {vs : List V} {xs : List PV} (h : F a = some (.tup vs)) (r : RPs K F xs vs) : ItOk K (Itt K a) xs F := by
  refine ⟨fun i p F' H' e s s' => ?_, fun F' H' s s' => ⟨vs, .inl (.inl (s' _ _ (s _ _ h))), by rw [r.length]; exact Nat.le_refl _⟩⟩
  have hq : SqT K H' a vs := .inl (.inl (s' _ _ (s _ _ h)))
  obtain ⟨v, e1, e2⟩ := r.get e
  refine ⟨⟨vs, v, hq, e1⟩, fun x H'' y => .inl ⟨y.1, ?_⟩⟩
  have := y.2 vs hq
  rw [e1] at this
  cases this
  exact RP.mono s _ _ e2
theorem upto_len (lo : Int) : ∀ n, (upto lo n).length = n
  | 0 => rfl
  | n + 1 => by simp [upto, upto_len]
theorem upto_get (lo : Int) : ∀ (n i : Nat), i < n → (upto lo n)[i]? = some (lo + i)
  | 0, i, h => absurd h (Nat.not_lt_zero i)
  | n + 1, 0, _ => by simp [upto]
  | n + 1, i + 1, h => by
    rw [upto, List.getElem?_cons_succ, upto_get (lo + 1) n i (by omega)]
    congr 1
    omega
theorem downto_len (lo : Int) : ∀ n, (downto lo n).length = n
  | 0 => rfl
  | n + 1 => by simp [downto, downto_len]
theorem downto_get (lo : Int) : ∀ (n i : Nat), i < n → (downto lo n)[i]? = some (lo + (i : Int) * (-1))
  | 0, i, h => absurd h (Nat.not_lt_zero i)
  | n + 1, 0, _ => by simp [downto]
  | n + 1, i + 1, h => by
    rw [downto, List.getElem?_cons_succ, downto_get (lo - 1) n i (by omega)]
    congr 1
    omega
theorem pi_or {X : Cx} {tg e : Expr} {w w' : TI} (h : PI X tg e w) (h' : PI X tg e w') : PI X tg e (fun σ H R => w σ H R ∨ w' σ H R) := ⟨fun pins s σ H R I q => q.elim (h.run pins s σ H R I) (h'.run pins s σ H R I)⟩
theorem it_str {x : Sg} (ok : okS x = true) : ItOk K (Its (mkS x)) (x.map fun c => .str [c]) F := by
  refine ⟨fun i p F' H' h _ _ => ?_, fun F' H' _ _ => ?_⟩
  · rw [List.getElem?_map, Option.map_eq_some_iff] at h
    obtain ⟨c, h1, h2⟩ := h
    subst h2
    have hi := (List.getElem?_eq_some_iff.mp h1).1
    refine ⟨by show i < x.toArray.size; simpa using hi, fun v H'' y => ?_⟩
    obtain ⟨e1, d, e2, e3⟩ := y
    have e2' : x.toArray[i]? = some d := e2
    rw [List.getElem?_toArray, h1] at e2'
    cases e2'
    refine .inl ⟨e1, ?_⟩
    simp only [RP]
    refine ⟨e3, ?_⟩
    have := List.all_eq_true.mp ok c (List.mem_of_getElem? h1)
    simpa [okS] using this
  · show x.toArray.size ≤ _
    simp
theorem it_range (lo : Int) (n : Nat) : ItOk K (Itr lo n) ((upto lo n).map .int) F := by
  refine ⟨fun i p F' H' e s s' => ?_, fun F' H' s s' => by show n ≤ _; rw [List.length_map, upto_len]; exact Nat.le_refl _⟩
  have hi : i < n := by
    have := (List.getElem?_eq_some_iff.mp e).1
    rwa [List.length_map, upto_len] at this
  refine ⟨hi, fun x H'' y => .inl ⟨y.1, ?_⟩⟩
  rw [List.getElem?_map, upto_get lo n i hi] at e
  simp only [Option.map_some, Option.some.injEq] at e
  subst e
  simp only [RP]
  exact y.2
theorem it_down (lo : Int) (n : Nat) : ItOk K (Itc lo (-1) n) ((downto lo n).map .int) F := by
  refine ⟨fun i p F' H' e s s' => ?_, fun F' H' s s' => by show n ≤ _; rw [List.length_map, downto_len]; exact Nat.le_refl _⟩
  have hi : i < n := by
    have := (List.getElem?_eq_some_iff.mp e).1
    rwa [List.length_map, downto_len] at this
  refine ⟨hi, fun x H'' y => .inl ⟨y.1, ?_⟩⟩
  rw [List.getElem?_map, downto_get lo n i hi] at e
  simp only [Option.map_some, Option.some.injEq] at e
  subst e
  simp only [RP]
  exact y.2
end
/-- the reading of an iterable -/
def RdI (M : Nm) (K : PySem.W.Frag) (W : WX) (S : Sem) (wi : TI) (ik : IK) (src : List ME) : Prop := ∀ σ H R φ F ρ st, HR' M K F ρ H st → SL M K F ρ σ φ →
  (∀ vs st1 ps xs, evEs S src φ st = some (.ok vs st1) → unpv vs = some ps → items ik ps = some xs → (∀ F1 ρ1 H1 J, G F ρ H F1 ρ1 H1 → HR' M K F1 ρ1 H1 st1 → ItOk K J xs F1 → R J H1) → wi σ H R) ∧
  (∀ e st1, evEs S src φ st = some (.ex e st1) → (∀ F' ρ' H' cls d, G F ρ H F' ρ' H' → HR' M K F' ρ' H' st1 → RX M K F' H' e cls d → W cls d σ H') → wi σ H R)
theorem rangeOk_ok {i : Int} (h : rangeOk i = true) : -(2 ^ 62) ≤ i ∧ i < 2 ^ 62 := by
  simpa [rangeOk] using h
section
variable {X : Cx} {g : SC} {M : Nm} {S : Sem} {W : WX} {k : Nat}
theorem one_ok {m : ME} {φ : Slots} {st st1 : Store} {vs : List LV} (e : evEs S [m] φ st = some (.ok vs st1)) : ∃ v, vs = [v] ∧ evE S m φ st = some (.ok v st1) := by
  simp only [evEs] at e
  cases q : evE S m φ st with
  | none => rw [q] at e; cases e
  | some r =>
    rw [q] at e
    cases r with
    | ok v st2 =>
      simp only [R.bs, Rs.bs, Option.some.injEq, ERs.ok.injEq] at e
      obtain ⟨e1, e2⟩ := e
      subst e1 e2
      exact ⟨v, rfl, rfl⟩
    | ex x st2 => simp [R.bs] at e
theorem one_ex {m : ME} {φ : Slots} {st st1 : Store} {x : Ex} (e : evEs S [m] φ st = some (.ex x st1)) : evE S m φ st = some (.ex x st1) := by
  simp only [evEs] at e
  cases q : evE S m φ st with
  | none => rw [q] at e; cases e
  | some r =>
    rw [q] at e
    cases r with
    | ok v st2 => simp [R.bs, Rs.bs] at e
    | ex y st2 =>
      simp only [R.bs, Option.some.injEq, ERs.ex.injEq] at e
      obtain ⟨e1, e2⟩ := e
      subst e1 e2
      rfl
theorem evEs_len : ∀ {ms : List ME} {φ : Slots} {st st1 : Store} {vs : List LV}, evEs S ms φ st = some (.ok vs st1) → vs.length = ms.length
  | [], φ, st, st1, vs, e => by
    simp only [evEs, Option.some.injEq, ERs.ok.injEq] at e
    rw [← e.1]; rfl
  | m :: ms, φ, st, st1, vs, e => by
    simp only [evEs] at e
    cases q : evE S m φ st with
    | none => rw [q] at e; cases e
    | some r =>
      rw [q] at e
      cases r with
      | ex x st2 => simp [R.bs] at e
      | ok v st2 =>
        simp only [R.bs] at e
        cases q2 : evEs S ms φ st2 with
        | none => rw [q2] at e; cases e
        | some r2 =>
          rw [q2] at e
          cases r2 with
          | ex x st3 => simp [Rs.bs] at e
          | ok vs2 st3 =>
            simp only [Rs.bs, Option.some.injEq, ERs.ok.injEq] at e
            rw [← e.1]
            simp [evEs_len q2]
theorem srcs_of {F1 : Hp} {ρ1 : List Addr} {K : PySem.W.Frag} {ms : List ME} {es : List Expr} {φ : Slots} {st st1 : Store} {vs : List LV} {ps : List PV} {ws : List V} (hl : ms.length = es.length) (e1 : evEs S ms φ st = some (.ok vs st1)) (e2 : unpv vs = some ps) (r : RLs K F1 ρ1 vs ws) :
    ps.length = es.length ∧ RPs K F1 ps ws := by
  have e3 := unpv_eq e2
  have l := evEs_len e1
  rw [e3] at r l
  rw [List.length_map] at l
  exact ⟨l.trans hl, RLs_pv.mp r⟩
theorem iter_ok (C : Cok X g M S W k) {ik : IK} {src : List ME} {it : Expr} {xs : List Expr} {tg : Expr} (h : srcOf g ik it = some xs) (hs : SEs X M S W src xs) :
    ∃ wi, PI X tg it wi ∧ RdI M X.K W S wi ik src ∧ (∀ env x, foldedSetIterable it env x = pure x) := by
  cases ik with
  | val =>
    simp only [srcOf] at h
    split at h
    · cases h
    · rename_i hset
      simp only [Option.some.injEq] at h
      subst h
      have hl := hs.len
      cases src with
      | nil => simp at hl
      | cons m ms =>
        cases ms with
        | cons _ _ => simp at hl
        | nil =>
          obtain ⟨e, r, h1, h2, ⟨t, h3, h4⟩, h5⟩ := hs
          simp only [List.cons.injEq] at h1
          obtain ⟨h1, _⟩ := h1
          subst h1
          refine ⟨_, pi_or (pi_seq h3) (pi_str h3), ?_, fun env x => noFold (by simpa using hset) env x⟩
          intro σ H Rr φ F ρ st hh hsl
          constructor
          · intro vs st1 ps ys e1 e2 e3 q
            obtain ⟨v, ev, e4⟩ := one_ok e1
            subst ev
            cases v with
            | ref n => simp [unpv] at e2
            | tup _ => simp [unpv] at e2
            | exn _ => simp [unpv] at e2
            | pv p =>
              simp only [unpv, Option.map_some, Option.some.injEq] at e2
              subst e2
              cases p <;> simp only [items, Option.some.injEq, reduceCtorEq] at e3
              case str x =>
                split at e3
                · simp only [Option.some.injEq] at e3
                  subst e3
                  refine .inr (h4 σ H _ φ F ρ st _ hh hsl e4 fun F1 ρ1 H1 w g1 h1 r1 => ?_)
                  simp only [RL, RP] at r1
                  exact ⟨mkS x, r1.1, q F1 ρ1 H1 _ g1 h1 (it_str r1.2)⟩
                · cases e3
              case tup xs =>
                subst e3
                refine .inl (h4 σ H _ φ F ρ st _ hh hsl e4 fun F1 ρ1 H1 w g1 h1 r1 => ?_)
                simp only [RL, RP] at r1
                obtain ⟨a, ws, e5, e6, e7⟩ := r1
                exact ⟨a, e5, .inr ⟨⟨ws, .inl (.inl (h1.sub _ _ e6))⟩, q F1 ρ1 H1 _ g1 h1 (it_tup e6 e7)⟩⟩
              case lst xs =>
                subst e3
                refine .inl (h4 σ H _ φ F ρ st _ hh hsl e4 fun F1 ρ1 H1 w g1 h1 r1 => ?_)
                simp only [RL, RP] at r1
                obtain ⟨a, ws, e5, e6, e7⟩ := r1
                exact ⟨a, e5, .inl ⟨⟨ws, .inl (.inl (h1.sub _ _ e6))⟩, q F1 ρ1 H1 _ g1 h1 (it_list e6 e7)⟩⟩
          · intro x st1 e1 q
            exact .inl (h4 σ H _ φ F ρ st _ hh hsl (one_ex e1) q)
  | range =>
    simp only [srcOf] at h
    split at h
    · rename_i f fp ys pos
      split at h
      · rename_i hc
        simp only [Option.some.injEq] at h
        subst h
        simp only [Bool.and_eq_true, decide_eq_true_eq] at hc
        obtain ⟨⟨⟨hf, hg⟩, hl1⟩, hl3⟩ := hc
        obtain ⟨g1, g2⟩ := C.gl hg
        subst hf
        obtain ⟨t, ht, hr⟩ := hs.pa
        have hst := hs.star
        have fold : ∀ env x, foldedSetIterable (.Call (.Name rangeN fp) ys [] pos) env x = pure x := fun env x => rfl
        have hlen := hs.len
        match ys, hl1, hl3, ht, hst, hlen with
        | [a], _, _, ht, hst, hlen =>
          have sa : starEach [a] X.env = [(false, eval a X.env)] := by
            simp only [List.all_cons, Bool.and_eq_true, Bool.not_eq_true'] at hst
            rw [star_each hst.1]; rfl
          refine ⟨_, pi_range1 g1 C.br ht sa, ?_, fold⟩
          intro σ H Rr φ F ρ st hh hsl
          refine ⟨fun vs st1 ps ys e1 e2 e3 q => hr σ H _ φ F ρ st _ hh hsl e1 fun F1 ρ1 H1 ws g1 h1 r1 => ?_, fun x st1 e1 q => hr σ H _ φ F ρ st _ hh hsl e1 q⟩
          obtain ⟨lv, r2⟩ := srcs_of hlen e1 e2 r1
          match ps, lv, e3, r2 with
          | [p], _, e3, r2 =>
            cases p <;> simp only [items, reduceCtorEq] at e3
            rename_i j
            split at e3
            · rename_i hj
              simp only [Option.some.injEq] at e3
              subst e3
              simp only [RPs, RP] at r2
              obtain ⟨v, r', w1, w2, w3⟩ := r2
              subst w1 w2 w3
              obtain ⟨b1, b2⟩ := rangeOk_ok hj
              exact ⟨_, rfl, b1, b2, q F1 ρ1 H1 _ g1 h1 (it_range 0 _)⟩
            · cases e3
        | [a, b], _, _, ht, hst, hlen =>
          simp only [List.all_cons, Bool.and_eq_true, Bool.not_eq_true'] at hst
          have sb : starEach [b] X.env = [(false, eval b X.env)] := by rw [star_each hst.2.1]; rfl
          have sa : starEach [a, b] X.env = [(false, eval a X.env), (false, eval b X.env)] := by rw [star_each hst.1, sb]
          refine ⟨_, pi_range2 g1 C.br ht sa sb, ?_, fold⟩
          intro σ H Rr φ F ρ st hh hsl
          refine ⟨fun vs st1 ps ys e1 e2 e3 q => hr σ H _ φ F ρ st _ hh hsl e1 fun F1 ρ1 H1 ws g1 h1 r1 => ?_, fun x st1 e1 q => hr σ H _ φ F ρ st _ hh hsl e1 q⟩
          obtain ⟨lv, r2⟩ := srcs_of hlen e1 e2 r1
          match ps, lv, e3, r2 with
          | [p, p'], _, e3, r2 =>
            cases p <;> cases p' <;> simp only [items, reduceCtorEq] at e3
            split at e3
            · rename_i hj
              simp only [Option.some.injEq] at e3
              subst e3
              simp only [Bool.and_eq_true] at hj
              simp only [RPs, RP] at r2
              obtain ⟨v, r', w1, w2, v', r'', w3, w4, w5⟩ := r2
              subst w1 w2 w3 w4 w5
              obtain ⟨b1, b2⟩ := rangeOk_ok hj.1
              obtain ⟨b3, b4⟩ := rangeOk_ok hj.2
              exact ⟨_, _, rfl, ⟨b1, b2, b3, b4⟩, q F1 ρ1 H1 _ g1 h1 (it_range _ _)⟩
            · cases e3
        | [a, b, c], _, _, ht, hst, hlen =>
          simp only [List.all_cons, Bool.and_eq_true, Bool.not_eq_true'] at hst
          refine ⟨_, pi_range3 g1 C.br ht (star_each hst.1) (star_plain (by simp [hst.2.1, hst.2.2.1])), ?_, fold⟩
          intro σ H Rr φ F ρ st hh hsl
          refine ⟨fun vs st1 ps ys e1 e2 e3 q => hr σ H _ φ F ρ st _ hh hsl e1 fun F1 ρ1 H1 ws g1 h1 r1 => ?_, fun x st1 e1 q => hr σ H _ φ F ρ st _ hh hsl e1 q⟩
          obtain ⟨lv, r2⟩ := srcs_of hlen e1 e2 r1
          match ps, lv, e3, r2 with
          | [p, p', p''], _, e3, r2 =>
            cases p <;> cases p' <;> cases p'' <;> simp only [items, reduceCtorEq] at e3
            split at e3
            · rename_i hj
              simp only [Option.some.injEq] at e3
              subst e3
              simp only [Bool.and_eq_true, decide_eq_true_eq] at hj
              simp only [RPs, RP] at r2
              obtain ⟨v, r', w1, w2, v', r'', w3, w4, v3, r3, w5, w6, w7⟩ := r2
              obtain ⟨⟨j1, j2⟩, j3⟩ := hj
              subst j3
              subst w1 w2 w3 w4 w5 w6 w7
              obtain ⟨b1, b2⟩ := rangeOk_ok j1
              obtain ⟨b3, b4⟩ := rangeOk_ok j2
              exact ⟨_, _, _, _, rfl, RgC.neg b1 b2 b3 b4, q F1 ρ1 H1 _ g1 h1 (it_down _ _)⟩
            · cases e3
      · cases h
    · cases h
end
end Z
end

section
/-! ZM: comprehensions. -/
namespace Z
open PySem PySem.Spec PyProof.Rows L2
section
variable {X : Cx} {g : SC} {M : Nm} {S : Sem} {W : WX} {k : Nat}
abbrev W0 : WX := fun _ _ _ _ => False
theorem Cok.blk (C : Cok X g M S W k) (hn : g.hot = false) (scope : Scope) (s : Shared) (H : Hp) (A : Addr) (cl : List (Str × Addr)) (fp : List Addr) :
    Cok (X.blk s H scope (compEnvC scope cl A X.env) fp) (g.blk scope) M S W0 k where
  N := C.N
  sc := by
    show relabel scope X.env = relS scope g.sc
    rw [← C.sc]; rfl
  fn := fun x h => by
    have h' : decide (scope.names.lookup x = some .cell) = true := h
    show (scope.names.lookup x == some .cell) = true
    rw [of_decide_eq_true h']; rfl
  nd := C.nd
  calm := C.calm
  hr := C.hr
  hrH := fun h => by have h2 : g.hot = true := h; rw [hn] at h2; cases h2
  hotc := fun h => by have h2 : g.hot = true := h; rw [hn] at h2; cases h2
  callsH := C.callsH
  un := C.un
  gd := C.gd
  gdx := C.gdx
  fr := C.fr
  glb := C.glb
  calls := C.calls
  errs := fun c ei h => ⟨(C.errs c ei h).adr, (C.errs c ei h).xf, (C.errs c ei h).ec, (C.errs c ei h).no, (C.errs c ei h).sub, (C.errs c ei h).xin, (C.errs c ei h).make⟩
  cls := fun c ci h => ⟨(C.cls c ci h).adr, (C.cls c ci h).cl, (C.cls c ci h).no, (C.cls c ci h).meth, (C.cls c ci h).make⟩
  nf := C.nf
  xerr := C.xerr
  finj := C.finj
  fname := C.fname
  cur := by
    have h1 := C.cur
    have h2 : (g.blk scope).exn = none := C.cold hn
    rw [C.cold hn] at h1
    rw [h2]
    exact h1
  cold := fun _ => C.cold hn
  stk := fun h => by cases h
  frm := fun h => by cases h
  takes := takesN
  pass := PassesOwn.never
section
variable {F F' F1 F2 H H' H1 H2 : Hp} {ρ ρ' ρ1 ρ2 : List Addr} {st : Store} {K : PySem.W.Frag} {D : Addr} {o o' : HO}
/-- the object at D, younger than the beginning, changes -/
theorem G.turnD (g : G F1 ρ1 H1 F2 ρ2 H2) (nD : H1 D = none) (h : HR' M K F2 ρ2 H2 st) (nF : F2 D = none) (nρ : D ∉ ρ2) : G F1 ρ1 H1 F2 ρ2 (upd H2 D o) ∧ HR' M K F2 ρ2 (upd H2 D o) st := by
  refine ⟨⟨g.sub, g.pre, fun b u e hb => by rw [upd_ne (ne_of_none e nD)]; exact g.keep b u e hb, g.new, g.newρ, fun b hb => ?_⟩, ⟨fun b u e => by rw [upd_ne (ne_of_none e nF)]; exact h.sub b u e, h.len, h.nd, fun n a c e1 e2 => ?_⟩⟩
  · by_cases hbD : b = D
    · rw [hbD, upd_same]; simp
    · rw [upd_ne hbD]; exact g.hold b hb
  · have hc := h.cell n a c e1 e2
    have hne : a ≠ D := fun z => nρ (by rw [← z]; exact List.mem_of_getElem? e1)
    exact hc.mono (Sub.refl _) (Pre.refl _) (fun u e => by rw [upd_ne hne]; exact e) fun e => e
/-- it becomes a cell -/
theorem G.adoptC (g : G F1 ρ1 H1 F2 ρ2 H2) (nD : H1 D = none) (h : HR' M K F2 ρ2 H2 st) (nρ : D ∉ ρ2) {c : Cell} (hc : CR K F2 (ρ2 ++ [D]) M.cad M.fnm H2 D c) : G F1 ρ1 H1 F2 (ρ2 ++ [D]) H2 ∧ HR' M K F2 (ρ2 ++ [D]) H2 (st ++ [c]) := by
  refine ⟨⟨g.sub, g.pre.trans (Pre.snoc _ _), g.keep, g.new, fun b hb => ?_, g.hold⟩, ⟨h.sub, by rw [List.length_append, List.length_append, h.len]; rfl, ?_, fun n a c' e1 e2 => ?_⟩⟩
  · rcases List.mem_append.mp hb with z | z
    · exact g.newρ b z
    · have e : b = D := by simpa using z
      exact .inr (by rw [e]; exact nD)
  · exact List.nodup_append.mpr ⟨h.nd, by simp, fun x hx y hy e => nρ (by
      have : y = D := by simpa using hy
      rw [← this, ← e]; exact hx)⟩
  · by_cases hn : n < ρ2.length
    · rw [List.getElem?_append_left hn] at e1
      rw [List.getElem?_append_left (by rw [← h.len]; exact hn)] at e2
      exact (h.cell n a c' e1 e2).mono (Sub.refl _) (Pre.snoc _ _) (fun u e => e) fun e => e
    · have hn' : n = ρ2.length := by
        have := (List.getElem?_eq_some_iff.mp e1).1
        rw [List.length_append] at this
        simp only [List.length_cons, List.length_nil] at this
        omega
      subst hn'
      rw [List.getElem?_append_right (Nat.le_refl _)] at e1
      rw [h.len, List.getElem?_append_right (Nat.le_refl _)] at e2
      simp only [Nat.sub_self, List.getElem?_cons_zero, Option.some.injEq] at e1 e2
      subst e1 e2
      exact hc
/-- nothing will change it any more -/
theorem G.adoptF (g : G F1 ρ1 H1 F2 ρ2 H2) (nD : H1 D = none) (h : HR' M K F2 ρ2 H2 st) (hD : H2 D = some o) (nF : F2 D = none) (nρ : D ∉ ρ2) : G F1 ρ1 H1 (upd F2 D o) ρ2 H2 ∧ HR' M K (upd F2 D o) ρ2 H2 st := by
  refine ⟨⟨g.sub.trans (sub_upd nF), g.pre, g.keep, fun b u e => ?_, g.newρ, g.hold⟩, ⟨fun b u e => ?_, h.len, h.nd, fun n a c e1 e2 => ?_⟩⟩
  · by_cases hb : b = D
    · exact .inr (.inl (by rw [hb]; exact nD))
    · rw [upd_ne hb] at e; exact g.new b u e
  · by_cases hb : b = D
    · subst hb; rw [upd_same] at e; rw [← e]; exact hD
    · rw [upd_ne hb] at e; exact h.sub b u e
  · have hc := h.cell n a c e1 e2
    have hne : a ≠ D := fun z => nρ (by rw [← z]; exact List.mem_of_getElem? e1)
    exact hc.mono (sub_upd nF) (Pre.refl _) (fun u e => e) fun e => by rw [upd_ne hne]; exact e
/-- D through what may have come to pass -/
theorem G.atD (g : G F1 ρ1 H1 F2 ρ2 H2) (hD : H1 D = some o) (nF : F1 D = none) (nρ : D ∉ ρ1) : H2 D = some o ∧ F2 D = none ∧ D ∉ ρ2 := by
  refine ⟨g.keep D o hD nρ, ?_, fun hm => (g.newρ D hm).elim nρ fun z => by rw [hD] at z; cases z⟩
  cases q : F2 D with
  | none => rfl
  | some u =>
    rcases g.new D u q with z | z | z
    · rw [nF] at z; cases z
    · rw [hD] at z; cases z
    · exact absurd z nρ
end
theorem RLs.snoc {K : PySem.W.Frag} {F : Hp} {ρ : List Addr} {xs : List LV} {vs : List V} {y : LV} {v : V} (h : RLs K F ρ xs vs) (r : RL K F ρ y v) : RLs K F ρ (xs ++ [y]) (vs ++ [v]) :=
  h.append (by simp only [RLs]; exact ⟨v, [], rfl, r, rfl⟩)
/-- what a turn's test and element read -/
def RdTurn (M : Nm) (K : PySem.W.Frag) (tt : TT) (te : TE) (body : Slots → Store → Option ERs) : Prop := ∀ φ σ F ρ H st st' ys (U : V → Hp → Prop) (U0 : Hp → Prop), HR' M K F ρ H st → SL M K F ρ σ φ → body φ st = some (.ok ys st') →
  (∀ F' ρ' H', G F ρ H F' ρ' H' → HR' M K F' ρ' H' st' → (ys = [] → U0 H') ∧ ∀ y v, ys = [y] → RL K F' ρ' y v → U v H') → tt σ H fun b H3 => if b = true then te σ H3 U else U0 H3
/-- the loop of a comprehension with one clause -/
theorem lc_loop {J : It} {tg : TG} {tt : TT} {te : TE} {mg : MG} {own : List Nat} {xs : List PV} {K : PySem.W.Frag} {F1 H1 : Hp} {ρ1 : List Addr} {st1 stE : Store} {all : List LV} {σ : L2.St} {φ : Slots} {D : Addr} {Q : Hp → Prop} {step : PV → Store → Option ERs} {body : Slots → Store → Option ERs}
    (hstep : ∀ x st, step x st = match asgG mg (.pv x) (wipeL φ own) with
      | some φ1 => body φ1 st
      | none => none)
    (hg : RdG M K tg mg) (hsub : ∀ i ∈ slotsG mg, i ∈ own) (hb : RdTurn M K tt te body)
    (h1 : HR' M K F1 ρ1 H1 st1) (hs : SL M K F1 ρ1 σ φ) (ito : ItOk K J xs F1) (nD : H1 D = none) (ql : lcLoop step xs st1 = some (all, stE)) (hall : all.length ≤ line)
    (hq : ∀ F2 ρ2 H2 accV, G F1 ρ1 H1 F2 ρ2 H2 → HR' M K F2 ρ2 H2 stE → H2 D = some (.lst accV) → F2 D = none → D ∉ ρ2 → RLs K F2 ρ2 all accV → Q H2) :
    ∃ W_1 : Nat → Nat → Hp → Prop, (∃ m, W_1 0 m (upd H1 D (.lst []))) ∧ ∀ i m H, W_1 i m H →
      (J.stop i H ∧ Q H) ∨ (J.go i H ∧ ∃ Nx : Hp → Prop, (∀ H', Nx H' → ∃ m', m' < m ∧ W_1 (i + 1) m' H') ∧ ∀ x H', J.yld i H x H' → tg x (wipe σ own) H' fun σ2 H2 => wipe σ2 own = wipe σ own ∧ tt σ2 H2 fun b H3 =>
        if b = true then te σ2 H3 fun y H4 => ∃ acc, H4 D = some (.lst acc) ∧ acc.length < sizeLine ∧ Nx (upd H4 D (.lst (acc ++ [y]))) else Nx H3) := by
  obtain ⟨Inv, hInv⟩ : ∃ Inv : Nat → Hp → Prop, Inv = fun i H => i ≤ xs.length ∧ ∃ F2 ρ2 st2 acc accV zs, G F1 ρ1 H1 F2 ρ2 H ∧ HR' M K F2 ρ2 H st2 ∧ H D = some (.lst accV) ∧ F2 D = none ∧ D ∉ ρ2 ∧ RLs K F2 ρ2 acc accV ∧
      lcLoop step (xs.drop i) st2 = some (zs, stE) ∧ acc ++ zs = all := ⟨_, rfl⟩
  refine ⟨fun i m H => m = xs.length - i ∧ Inv i H, ⟨xs.length, by simp, ?_⟩, ?_⟩
  · obtain ⟨gL, hL⟩ := h1.laid nD (.lst [])
    rw [hInv]
    exact ⟨Nat.zero_le _, F1, ρ1, st1, [], [], all, gL, hL, upd_same, h1.fresh nD, h1.notin nD, by simp only [RLs], by simpa using ql, rfl⟩
  rintro i m H2 ⟨rfl, hI⟩
  rw [hInv] at hI
  obtain ⟨hi, F2, ρ2, st2, acc, accV, zs, g2, h2, hD, nF2, nρ2, ra, el, ea⟩ := hI
  by_cases hlt : i < xs.length
  · refine .inr ?_
    have hx : xs[i]? = some xs[i] := List.getElem?_eq_getElem hlt
    obtain ⟨hgo, hy⟩ := ito.at_ i xs[i] F2 H2 hx g2.sub h2.sub
    rw [List.drop_eq_getElem_cons hlt] at el
    unfold lcLoop at el
    cases qs : step xs[i] st2 with
    | none => simp [qs, noX] at el
    | some rr =>
      cases rr with
      | ex x stx => simp [qs, noX] at el
      | ok ys st3 =>
        simp only [qs, noX] at el
        cases q3 : lcLoop step (xs.drop (i + 1)) st3 with
        | none => simp [q3] at el
        | some p3 =>
          obtain ⟨zs', stE'⟩ := p3
          simp only [q3, Option.some.injEq, Prod.mk.injEq] at el
          obtain ⟨el1, el2⟩ := el
          subst el2
          refine ⟨hgo, Inv (i + 1), fun H' hN => ⟨xs.length - (i + 1), by omega, rfl, hN⟩, fun x H' hyl => ?_⟩
          have item : ∃ F3 , G F2 ρ2 H2 F3 ρ2 H' ∧ HR' M K F3 ρ2 H' st2 ∧ RP K F3 xs[i] x := by
            rcases hy x H' hyl with ⟨e1, e2⟩ | ⟨T, o, e0, e1, e2⟩
            · subst e1
              exact ⟨F2, G.refl _ _ _, h2, e2⟩
            · subst e1
              obtain ⟨g3, h3⟩ := h2.new e0 o
              exact ⟨_, g3, h3, e2⟩
          obtain ⟨F3, g3, h3, rx⟩ := item
          rw [hstep] at qs
          cases qa : asgG mg (.pv xs[i]) (wipeL φ own) with
          | none => simp [qa] at qs
          | some φ1 =>
            simp only [qa] at qs
            refine hg (.pv xs[i]) x (wipeL φ own) φ1 (wipe σ own) F3 ρ2 H' st2 _ h3 ((hs.g (g2.trans g3)).wipe own) (by simp only [RL]; exact rx) qa fun σ2 hs2 ho => ?_
            refine ⟨by rw [ho own hsub, wipe_wipe], ?_⟩
            refine hb φ1 σ2 F3 ρ2 H' st2 st3 ys (fun y H4 => ∃ acc, H4 D = some (.lst acc) ∧ acc.length < sizeLine ∧ Inv (i + 1) (upd H4 D (.lst (acc ++ [y])))) (Inv (i + 1)) h3 hs2 qs ?_
            intro F4 ρ4 H4 g4 h4
            have g34 := g3.trans g4
            obtain ⟨hD4, nF4, nρ4⟩ := g34.atD hD nF2 nρ2
            have gg : G F1 ρ1 H1 F4 ρ4 H4 := g2.trans g34
            have ra4 : RLs K F4 ρ4 acc accV := RLs.mono g34.sub g34.pre _ _ ra
            refine ⟨fun ey => ?_, fun y v ey ry => ?_⟩
            · subst ey
              rw [hInv]
              exact ⟨hlt, F4, ρ4, st3, acc, accV, zs', gg, h4, hD4, nF4, nρ4, ra4, q3, by rw [← ea, ← el1]; simp⟩
            · subst ey
              have hlen : accV.length < sizeLine := by
                rw [← ra4.length, line_eq]
                have := hall
                rw [← ea, ← el1] at this
                simp only [List.length_append, List.length_cons, List.length_nil] at this
                omega
              obtain ⟨gU, hU⟩ := gg.turnD (o := .lst (accV ++ [v])) nD h4 nF4 nρ4
              refine ⟨accV, hD4, hlen, ?_⟩
              rw [hInv]
              exact ⟨hlt, F4, ρ4, st3, acc ++ [y], accV ++ [v], zs', gU, hU, upd_same, nF4, nρ4, ra4.snoc ry, q3, by rw [← ea, ← el1]; simp⟩
  · have hi' : i = xs.length := by omega
    subst hi'
    refine .inl ⟨ito.stop F2 H2 g2.sub h2.sub, ?_⟩
    rw [List.drop_length] at el
    simp only [lcLoop, Option.some.injEq, Prod.mk.injEq] at el
    obtain ⟨el1, el2⟩ := el
    subst el1 el2
    rw [List.append_nil] at ea
    subst ea
    exact hq F2 ρ2 H2 accV g2 h2 hD nF2 nρ2 ra
theorem mkLst_ok {K : PySem.W.Frag} {live : Bool} {all : List LV} {F F2 H H2 : Hp} {ρ ρ2 : List Addr} {st : Store} {D : Addr} {accV : List V} {Q : VK} {r : ER} {σ : L2.St} (e : mkLst live all st = some r) (post : PostE M K W σ F ρ H Q r)
    (g : G F ρ H F2 ρ2 H2) (nD : H D = none) (h : HR' M K F2 ρ2 H2 st) (hD : H2 D = some (.lst accV)) (nF : F2 D = none) (nρ : D ∉ ρ2) (ra : RLs K F2 ρ2 all accV) : Q (.ref D) H2 := by
  unfold mkLst at e
  split at e
  · split at e
    · rename_i hl
      simp only [Option.some.injEq] at e
      subst e
      obtain ⟨g2, h2⟩ := g.adoptC nD h nρ (c := .lst true all) ⟨accV, hD, RLs.mono (Sub.refl _) (Pre.snoc _ _) _ _ ra, fun _ => nF, fun z => Bool.noConfusion z⟩
      refine post _ _ _ _ g2 h2 ?_
      simp only [RL]
      exact ⟨D, rfl, by rw [← h.len, List.getElem?_append_right (Nat.le_refl _)]; simp⟩
    · split at e
      · rename_i ps hu
        simp only [Option.some.injEq] at e
        subst e
        obtain ⟨g2, h2⟩ := g.adoptF nD h hD nF nρ
        refine post _ _ _ _ g2 h2 ?_
        simp only [RL, RP]
        rw [unpv_eq hu] at ra
        exact ⟨D, accV, rfl, upd_same, RPs.mono (sub_upd nF) _ _ (RLs_pv.mp ra)⟩
      · cases e
  · cases e
/-- the reading of a comprehension with one clause -/
theorem rd_lc {wi : TI} {tg : TG} {tt : TT} {te : TE} {mg : MG} {ik : IK} {src : List ME} {ifs : List MT} {elt : ME} {own : List Nat} {live : Bool}
    (hi : RdI M X.K W S wi ik src) (hg : RdG M X.K tg mg) (hsub : ∀ i ∈ slotsG mg, i ∈ own)
    (hb : RdTurn M X.K tt te fun φ st => evIf S ifs φ st fun st => R.bs (evE S elt φ st) fun y st => some (.ok [y] st)) :
    RdE M X.K W (tLc wi tg tt te own) (evE S (.lc live elt mg ik src ifs own)) := by
  intro σ H Q φ F ρ st r hh hs e post
  unfold tLc
  simp only [evE] at e
  obtain ⟨hok, hex⟩ := hi σ H _ φ F ρ st hh hs
  cases q : evEs S src φ st with
  | none => rw [q] at e; cases e
  | some rs =>
    rw [q] at e
    cases rs with
    | ex x st1 =>
      have e' : r = .ex x st1 := (Option.some.inj e).symm
      subst e'
      exact hex x st1 q post
    | ok vs st1 =>
      simp only [Rs.bind] at e
      cases qu : unpv vs with
      | none => simp [qu] at e
      | some ps =>
        simp only [qu] at e
        cases qi : items ik ps with
        | none => simp [qi] at e
        | some xs =>
          simp only [qi] at e
          split at e
          · rename_i all stE ql
            refine hok vs st1 ps xs q qu qi fun F1 ρ1 H1 J g1 h1 ito D nD => ?_
            have hall : all.length ≤ line := by
              unfold mkLst at e
              split at e
              · assumption
              · cases e
            refine lc_loop (body := fun φ st => evIf S ifs φ st fun st => R.bs (evE S elt φ st) fun y st => some (.ok [y] st)) (fun x st => rfl) hg hsub hb h1 (hs.g g1) ito nD ql hall fun F2 ρ2 H2 accV g2 h2 hD nF nρ ra => ?_
            exact mkLst_ok e (post.g g1) g2 nD h2 hD nF nρ ra
          · cases e
end
end Z
end

section
/-! ZN: every expression that the look accepts does what the semantics says. -/
namespace Z
open PySem PySem.Spec PyProof.Rows L2
section
variable {X : Cx} {g : SC} {M : Nm} {S : Sem} {W : WX} {k : Nat}
/-! ### single constructs -/
theorem rd_var (i : Nat) : RdE M X.K W (tVar i) (evE S (.var i)) := by
  intro σ H Q φ F ρ st r hh hs e p
  simp only [evE] at e
  split at e
  · cases e
  · rename_i v hx hv
    simp only [Option.some.injEq] at e
    subst e
    obtain ⟨u, h1, h2⟩ := hs.2 i v hv
    exact ⟨u, h1, p.here hh (h2.rl fun e z => hx e z)⟩
  · cases e
theorem lit_ok {p : PV} {c : Const} {n : Nat} {pos : Pos} (h : litOk p c = true) : ∃ v, PE X (.Constant c n pos) (tC v) ∧ RP X.K (fun _ => none) p v := by
  cases p <;> cases c <;> simp only [litOk, Bool.and_eq_true, decide_eq_true_eq, beq_iff_eq, reduceCtorEq, Bool.false_eq_true] at h
  · exact ⟨_, pe_non, by simp only [RP]⟩
  · subst h; exact ⟨_, pe_bl, by simp only [RP]⟩
  · subst h; exact ⟨_, pe_int, by simp only [RP]⟩
  · obtain ⟨h1, h2⟩ := h
    subst h1
    exact ⟨_, pe_str, by simp only [RP, true_and]; exact h2⟩
theorem rd_const {p : PV} {v : V} {f : Slots → Store → Option ER} (r : RP X.K (fun _ => none) p v) (hf : ∀ φ st, f φ st = some (.ok (.pv p) st) ∨ f φ st = none) : RdE M X.K W (tC v) f := by
  intro σ H Q φ F ρ st res hh hs e post
  rcases hf φ st with h | h
  · rw [h] at e
    simp only [Option.some.injEq] at e
    subst e
    exact post.tree hh (RP.mono (fun b o z => by cases z) _ _ r)
  · rw [h] at e; cases e
theorem rd_tup {t : TA} {ms : List ME} (h : RdA M X.K W t (evEs S ms)) : RdE M X.K W (tTup t) (evE S (.tup ms)) := by
  intro σ H Q φ F ρ st r hh hs e p
  simp only [evE] at e
  refine h.bind hh hs e p fun xs st1 F1 ρ1 H1 vs e1 g1 h1 r1 p1 => ?_
  split at e1
  · rename_i hl
    simp only [Option.some.injEq] at e1
    subst e1
    refine ⟨by rw [← r1.length, line_eq]; exact hl, fun a na => ?_⟩
    obtain ⟨g2, h2⟩ := h1.new na (.tup vs)
    exact p1 _ _ _ _ g2 h2 (RL_mkTup (RLs.mono g2.sub g2.pre _ _ r1) upd_same)
  · cases e1
theorem rd_lst {t : TA} {ms : List ME} {live : Bool} (h : RdA M X.K W t (evEs S ms)) : RdE M X.K W (tLst t) (evE S (.lst live ms)) := by
  intro σ H Q φ F ρ st r hh hs e p
  simp only [evE] at e
  refine h.bind hh hs e p fun xs st1 F1 ρ1 H1 vs e1 g1 h1 r1 p1 => ?_
  have hl : xs.length ≤ line := by
    unfold mkLst at e1
    split at e1
    · assumption
    · cases e1
  refine ⟨by rw [← r1.length, line_eq]; exact hl, fun a na => ?_⟩
  obtain ⟨g2, h2⟩ := h1.laid na (.lst vs)
  exact mkLst_ok e1 p1 g2 na h2 upd_same (h1.fresh na) (h1.notin na) (RLs.mono g2.sub g2.pre _ _ r1)
theorem rd_dnew (t : Bool) : RdE M X.K W (if t then tDNewT else tDNewK) (evE S (.dnew t)) := by
  intro σ H Q φ F ρ st r hh hs e p
  simp only [evE, Option.some.injEq] at e
  subst e
  cases t with
  | true =>
    show tDNewT σ H Q
    intro a na
    obtain ⟨g2, h2⟩ := hh.cellN na (o := .dT []) (c := .dt true []) ⟨[], upd_same, by simp only [RLt], fun _ => hh.fresh na, fun z => Bool.noConfusion z⟩
    refine p _ _ _ _ g2 (by simpa using h2) ?_
    simp only [RL]
    exact ⟨a, rfl, by rw [← hh.len, List.getElem?_append_right (Nat.le_refl _)]; simp⟩
  | false =>
    show tDNewK σ H Q
    intro a na
    obtain ⟨g2, h2⟩ := hh.cellN na (o := .dK []) (c := .dk true []) ⟨[], upd_same, by simp only [RLk], fun _ => hh.fresh na, fun z => Bool.noConfusion z⟩
    refine p _ _ _ _ g2 (by simpa using h2) ?_
    simp only [RL]
    exact ⟨a, rfl, by rw [← hh.len, List.getElem?_append_right (Nat.le_refl _)]; simp⟩
theorem rd_neg {t : TE} {f : Slots → Store → Option ER} (h : RdE M X.K W t f) : RdE M X.K W (tUn (rU fun i => .int (-i)) t) fun φ st => R.bind (f φ st) fun x st => match x with
    | .pv (.int i) => some (.ok (.pv (.int (-i))) st)
    | _ => none := by
  intro σ H Q φ F ρ st r hh hs e p
  refine h.bind hh hs e p fun x st1 F1 ρ1 H1 v e1 g1 h1 r1 p1 => ?_
  split at e1
  · simp only [Option.some.injEq] at e1
    subst e1
    simp only [RL, RP] at r1
    exact ⟨_, r1, p1.tree h1 (by simp only [RP])⟩
  · cases e1
theorem rd_ite {tc : TT} {ta tb : TE} {fc : Slots → Store → Option ET} {fa fb : Slots → Store → Option ER} (hc : RdT M X.K W tc fc) (ha : RdE M X.K W ta fa) (hb : RdE M X.K W tb fb) :
    RdE M X.K W (tIf tc ta tb) fun φ st => T.bind (fc φ st) fun d st => if d then fa φ st else fb φ st := by
  intro σ H Q φ F ρ st r hh hs e p
  refine hc.bind hh hs e p fun d st1 F1 ρ1 H1 e1 g1 h1 p1 => ?_
  cases d with
  | true =>
    rw [if_pos rfl] at e1 ⊢
    exact ha σ H1 Q φ F1 ρ1 st1 r h1 (hs.g g1) e1 p1
  | false =>
    rw [if_neg Bool.false_ne_true] at e1 ⊢
    exact hb σ H1 Q φ F1 ρ1 st1 r h1 (hs.g g1) e1 p1
def tIsNB (neg : Bool) (t : TE) : TE := tOp (fun x y H Q => y = .non ∧ Q (.bl (neg ^^ decide (x = .non))) H) t (tC .non)
theorem RL_non {F : Hp} {ρ : List Addr} {K : PySem.W.Frag} : ∀ {x : LV} {v : V}, RL K F ρ x v → (v = .non ↔ x = .pv .non)
  | .pv .non, v, h => by simp only [RL, RP] at h; subst h; simp
  | .pv (.bl b), v, h => by simp only [RL, RP] at h; subst h; simp
  | .pv (.int b), v, h => by simp only [RL, RP] at h; subst h; simp
  | .pv (.str b), v, h => by simp only [RL, RP] at h; obtain ⟨h, _⟩ := h; subst h; simp
  | .pv (.tup b), v, h => by simp only [RL, RP] at h; obtain ⟨a, vs, h, _⟩ := h; subst h; simp
  | .pv (.lst b), v, h => by simp only [RL, RP] at h; obtain ⟨a, vs, h, _⟩ := h; subst h; simp
  | .pv (.dk b), v, h => by simp only [RL, RP] at h; obtain ⟨a, vs, h, _⟩ := h; subst h; simp
  | .pv (.dt b), v, h => by simp only [RL, RP] at h; obtain ⟨a, vs, h, _⟩ := h; subst h; simp
  | .pv (.scr b), v, h => by simp only [RL, RP] at h; obtain ⟨a, h, _⟩ := h; subst h; simp
  | .ref n, v, h => by simp only [RL] at h; obtain ⟨a, h, _⟩ := h; subst h; simp
  | .tup xs, v, h => by simp only [RL] at h; obtain ⟨a, vs, h, _⟩ := h; subst h; simp
theorem rd_isn {t : TE} {f : Slots → Store → Option ER} {neg : Bool} (h : RdE M X.K W t f) : RdE M X.K W (tIsNB neg t) fun φ st => R.bind (f φ st) fun x st => match x with
    | .pv .non => some (.ok (.pv (.bl (!neg))) st)
    | _ => some (.ok (.pv (.bl neg)) st) := by
  intro σ H Q φ F ρ st r hh hs e p
  refine h.bind hh hs e p fun x st1 F1 ρ1 H1 v e1 g1 h1 r1 p1 => ⟨rfl, ?_⟩
  have hn := RL_non r1
  split at e1
  · simp only [Option.some.injEq] at e1
    subst e1
    rw [decide_eq_true (hn.mpr rfl), Bool.xor_true]
    exact p1.tree h1 (by simp only [RP])
  · rename_i hx
    simp only [Option.some.injEq] at e1
    subst e1
    rw [decide_eq_false (fun z => hx (hn.mp z)), Bool.xor_false]
    exact p1.tree h1 (by simp only [RP])
theorem op_isNB (neg : Bool) : OpR X (compareOp (if neg then CmpOp.IsNot else CmpOp.Is)) (fun x y H Q => y = .non ∧ Q (.bl (neg ^^ decide (x = .non))) H) := by
  cases neg with
  | true => simpa using op_notN (X := X)
  | false => simpa using op_isN (X := X)
def tTru (K : PySem.W.Frag) (t : TE) : TT := fun σ H Q => t σ H fun x H' => ∃ k, TruV K x H' k ∧ Q k H'
theorem rd_tru1 {t : TE} {f : Slots → Store → Option ER} (h : RdE M X.K W t f) : RdT M X.K W (tTru X.K t) fun φ st => R.bt (f φ st) fun v st => (truL v st).map fun b => .ok b st := by
  intro σ H Q φ F ρ st r hh hs e p
  refine h.bindT hh hs e p fun x st1 F1 ρ1 H1 v e1 g1 h1 r1 p1 => ?_
  simp only [Option.map_eq_some_iff] at e1
  obtain ⟨b, e2, e3⟩ := e1
  subst e3
  exact ⟨b, rd_truL h1 r1 e2, p1 F1 ρ1 H1 (G.refl _ _ _) h1⟩
/-- a bool as a test -/
theorem rd_test {t : TE} {f : Slots → Store → Option ER} (h : RdE M X.K W t f) (hb : ∀ φ st x st', f φ st = some (.ok x st') → ∃ b, x = .pv (.bl b)) : RdT M X.K W (tTest t) fun φ st => R.bt (f φ st) fun v st => (truL v st).map fun b => .ok b st := by
  intro σ H Q φ F ρ st r hh hs e p
  simp only at e
  cases q : f φ st with
  | none => rw [q] at e; cases e
  | some a =>
    rw [q] at e
    cases a with
    | ex x st1 =>
      have e' : r = .ex x st1 := (Option.some.inj e).symm
      subst e'
      exact h σ H _ φ F ρ st _ hh hs q p
    | ok x st1 =>
      obtain ⟨b, hx⟩ := hb φ st x st1 q
      subst hx
      simp only [R.bt, truL, lenL, peek, tru, Option.map_some, Option.some.injEq] at e
      subst e
      refine h σ H _ φ F ρ st _ hh hs q fun F1 ρ1 H1 v g1 h1 r1 => ?_
      simp only [RL, RP] at r1
      exact ⟨b, r1, p F1 ρ1 H1 g1 h1⟩
theorem rd_notT {t : TT} {f : Slots → Store → Option ET} (h : RdT M X.K W t f) : RdT M X.K W (tNot t) fun φ st => T.bt (f φ st) fun b st => some (.ok (!b) st) := by
  intro σ H Q φ F ρ st r hh hs e p
  refine h.bindT hh hs e p fun d st1 F1 ρ1 H1 e1 g1 h1 p1 => ?_
  simp only [Option.some.injEq] at e1
  subst e1
  exact p1 F1 ρ1 H1 (G.refl _ _ _) h1
/-- not t, as a value -/
def tNotE (t : TT) : TE := fun σ H Q => t σ H fun b H1 => Q (.bl (!b)) H1
theorem cmp_bool {op : CO} {x y : LV} {st st' : Store} {z : LV} (e : cmp op x y st = some (.ok z st')) : ∃ b, z = .pv (.bl b) := by
  unfold cmp at e
  split at e
  · simp only [Option.map_eq_some_iff, ER.ok.injEq] at e
    obtain ⟨c, _, e1, _⟩ := e
    exact ⟨c, e1.symm⟩
  · cases e
theorem bind_bool {f : Slots → Store → Option ER} {gg : LV → Store → Option ER} (h : ∀ x st y st', gg x st = some (.ok y st') → ∃ b, y = .pv (.bl b)) {φ : Slots} {st st' : Store} {y : LV} (e : R.bind (f φ st) gg = some (.ok y st')) : ∃ b, y = .pv (.bl b) := by
  unfold R.bind at e
  split at e
  · exact h _ _ _ _ e
  · cases e
  · cases e
/-- the slice -/
theorem sIx_eq (n d : Nat) (o : Option Int) : HT.sIx n d o = sIx n d o := by
  cases o with
  | none => rfl
  | some v => rfl
theorem cutV_ok {K : PySem.W.Frag} {F : Hp} {xs : List PV} {vs : List V} (h : RPs K F xs vs) (lo hi : Option Int) : RPs K F (cut xs lo hi) (cutV vs lo hi) := by
  unfold cutV cut
  rw [sIx_eq, sIx_eq, ← h.length]
  exact (h.drop _).take _
def RdO (M : Nm) (K : PySem.W.Frag) (W : WX) (t : TO) (there : Bool) (f : Slots → Store → Option ER) : Prop := ∀ σ H (Q : Option Int → Hp → Prop) φ F ρ st r, HR' M K F ρ H st → SL M K F ρ σ φ → f φ st = some r →
  (match r with
    | .ok x st1 => ∃ o, optL there x = some o ∧ ∀ F1 ρ1 H1, G F ρ H F1 ρ1 H1 → HR' M K F1 ρ1 H1 st1 → Q o H1
    | .ex e st1 => ∀ F' ρ' H' cls d, G F ρ H F' ρ' H' → HR' M K F' ρ' H' st1 → RX M K F' H' e cls d → W cls d σ H') → t σ H Q
theorem rdo_none : RdO M X.K W tNoPart false fun φ st => some (.ok (.pv .non) st) := by
  intro σ H Q φ F ρ st r hh hs e p
  simp only [Option.some.injEq] at e
  subst e
  obtain ⟨o, h1, h2⟩ := p
  simp only [optL, Bool.false_eq_true, if_false, Option.some.injEq] at h1
  subst h1
  exact h2 F ρ H (G.refl _ _ _) hh
theorem rdo_some {t : TE} {f : Slots → Store → Option ER} (h : RdE M X.K W t f) : RdO M X.K W (tPart t) true f := by
  intro σ H Q φ F ρ st r hh hs e p
  cases r with
  | ex x st1 => exact h σ H _ φ F ρ st _ hh hs e p
  | ok x st1 =>
    obtain ⟨o, h1, h2⟩ := p
    refine h σ H _ φ F ρ st _ hh hs e fun F1 ρ1 H1 v g1 hh1 r1 => ?_
    simp only [optL, if_true] at h1
    split at h1
    · simp only [Option.some.injEq] at h1
      subst h1
      simp only [RL, RP] at r1
      exact ⟨_, r1, h2 F1 ρ1 H1 g1 hh1⟩
    · cases h1
def rSlW (K : PySem.W.Frag) : V → Option Int → Option Int → Hp → VK → Prop := fun x lo hi H Q => rSlL K x lo hi H Q ∨ rSlT K x lo hi H Q ∨ rSlS x lo hi H Q
theorem sl_W : SlR X (rSlW X.K) := sl_list.or (sl_tup.or sl_str)
theorem cutS_ok (x : Sg) (lo hi : Option Int) : cutS (mkS x) lo hi = mkS (cut x lo hi) := by
  have ix : ∀ (n d : Nat) (o : Option Int), HT.sIx n d o = sIx n d o := fun n d o => by cases o <;> rfl
  unfold cutS mkS cut
  rw [ix, ix]
  simp [Str.length]
theorem okS_cut {x : Sg} (h : okS x = true) (lo hi : Option Int) : okS (cut x lo hi) = true := by
  unfold okS cut at *
  rw [List.all_eq_true] at h ⊢
  exact fun c hc => h c (List.mem_of_mem_drop (List.mem_of_mem_take hc))
theorem rd_rev {ta : TE} {fa : Slots → Store → Option ER} (ha : RdE M X.K W ta fa) : RdE M X.K W (tRevS ta) (fun φ st => R.bind (fa φ st) fun x st => match x with
    | .pv (.str s) => if s.length ≤ 2 then some (.ok (.pv (.str s.reverse)) st) else none
    | _ => none) := by
  intro σ H Q φ F ρ st r hh hs e p
  refine ha.bind hh hs e p fun y st1 F1 ρ1 H1 v e1 g1 h1 r1 p1 => ?_
  match y, e1, r1 with
  | .pv (.str s), e1, r1 =>
    simp only at e1
    split at e1
    · rename_i hl
      simp only [Option.some.injEq] at e1
      subst e1
      simp only [RL, RP] at r1
      obtain ⟨rv, ok⟩ := r1
      refine ⟨mkS s, rv, by rw [mkS_len]; exact hl, p1.tree h1 ?_⟩
      simp only [RP]
      refine ⟨by unfold revS mkS; simp, ?_⟩
      simp only [okS, List.all_eq_true, List.mem_reverse] at ok ⊢
      exact ok
    · cases e1
  | .pv .non, e1, _ => cases e1
  | .pv (.bl _), e1, _ => cases e1
  | .pv (.int _), e1, _ => cases e1
  | .pv (.tup _), e1, _ => cases e1
  | .pv (.lst _), e1, _ => cases e1
  | .pv (.dk _), e1, _ => cases e1
  | .pv (.dt _), e1, _ => cases e1
  | .pv (.scr _), e1, _ => cases e1
  | .ref _, e1, _ => cases e1
  | .tup _, e1, _ => cases e1
  | .exn _, e1, _ => cases e1
theorem rd_slc {ta : TE} {tl th : TO} {fa fl fh : Slots → Store → Option ER} {l h : Bool} (ha : RdE M X.K W ta fa) (hl : RdO M X.K W tl l fl) (hu : RdO M X.K W th h fh) :
    RdE M X.K W (tSl (rSlW X.K) ta tl th) fun φ st => R.bind (fa φ st) fun x st => R.bind (fl φ st) fun lv st => match optL l lv with
      | some lo => R.bind (fh φ st) fun hv st => match optL h hv, peek st x with
        | some hi, some x => okP st (doSlc x lo hi)
        | _, _ => none
      | none => none := by
  intro σ H Q φ F ρ st r hh hs e p
  refine ha.bind hh hs e p fun x st1 F1 ρ1 H1 v e1 g1 h1 r1 p1 => ?_
  have hs1 := hs.g g1
  cases ql : fl φ st1 with
  | none => rw [ql] at e1; cases e1
  | some rl =>
    rw [ql] at e1
    cases rl with
    | ex y st2 =>
      have e' : r = .ex y st2 := (Option.some.inj e1).symm
      subst e'
      exact hl σ H1 _ φ F1 ρ1 st1 _ h1 hs1 ql p1
    | ok y st2 =>
      simp only [R.bind] at e1
      split at e1
      · rename_i lo elo
        refine hl σ H1 _ φ F1 ρ1 st1 _ h1 hs1 ql ⟨lo, elo, fun F2 ρ2 H2 g2 h2 => ?_⟩
        have hs2 := hs1.g g2
        have p2 := p1.g g2
        cases qh : fh φ st2 with
        | none => rw [qh] at e1; cases e1
        | some rh =>
          rw [qh] at e1
          cases rh with
          | ex z st3 =>
            have e' : r = .ex z st3 := (Option.some.inj e1).symm
            subst e'
            exact hu σ H2 _ φ F2 ρ2 st2 _ h2 hs2 qh p2
          | ok z st3 =>
            simp only at e1
            split at e1
            · rename_i hi px ehi epx
              refine hu σ H2 _ φ F2 ρ2 st2 _ h2 hs2 qh ⟨hi, ehi, fun F3 ρ3 H3 g3 h3 => ?_⟩
              have p3 := p2.g g3
              have r3 := RL.mono (g2.trans g3).sub (g2.trans g3).pre _ _ r1
              have hk := peek_ok h3 r3 epx
              cases px <;> simp only [doSlc, okP, Option.some.injEq, reduceCtorEq] at e1
              case lst xs =>
                subst e1
                obtain ⟨a, vs, ea, eb, ec⟩ := hk
                refine .inl ⟨a, vs, ea, .inl (.inl eb), fun b nb => p3.made h3 nb ?_⟩
                simp only [RP]
                exact ⟨b, _, rfl, upd_same, RPs.mono (sub_upd (h3.fresh nb)) _ _ (cutV_ok ec lo hi)⟩
              case tup xs =>
                split at e1
                · rename_i hp
                  split at hp
                  · cases hp
                  · rename_i hc
                    simp only [Option.some.injEq] at hp e1
                    subst hp e1
                    simp only [PK, RP] at hk
                    obtain ⟨a, vs, ea, eb, ec⟩ := hk
                    refine .inr (.inl ⟨a, vs, ea, .inl (.inl (h3.sub _ _ eb)), ?_, fun b nb => p3.made h3 nb ?_⟩)
                    · rw [← ec.length]
                      exact hc
                    · simp only [RP]
                      exact ⟨b, _, rfl, upd_same, RPs.mono (sub_upd (h3.fresh nb)) _ _ (cutV_ok ec lo hi)⟩
                · cases e1
              case str x =>
                split at e1
                · rename_i hp
                  split at hp
                  · rename_i hc
                    simp only [Option.some.injEq] at hp e1
                    subst hp e1
                    obtain ⟨k1, k2⟩ := hk.str
                    refine .inr (.inr ⟨_, k1, by rw [mkS_len, line_eq]; exact hc, ?_⟩)
                    rw [cutS_ok]
                    exact p3.tree h3 (by simp only [RP, true_and]; exact okS_cut k2 lo hi)
                  · cases hp
                · cases e1
            · cases e1
      · cases e1
end
end Z
end

section
/-! ZO: the theorem for expressions. -/
namespace Z
open PySem PySem.Spec PyProof.Rows L2
section
variable {X : Cx} {g : SC} {M : Nm} {S : Sem} {W : WX} {k : Nat}
theorem rd_not {t : TE} {f : Slots → Store → Option ER} (h : RdE M X.K W t f) : RdE M X.K W (tNotT X.K t) fun φ st => R.bind (f φ st) fun x st => match truL x st with
    | some b => some (.ok (.pv (.bl (!b))) st)
    | none => none := by
  intro σ H Q φ F ρ st r hh hs e p
  refine h.bind hh hs e p fun x st1 F1 ρ1 H1 v e1 g1 h1 r1 p1 => ?_
  split at e1
  · rename_i b hb
    simp only [Option.some.injEq] at e1
    subst e1
    exact ⟨b, rd_truL h1 r1 hb, p1.tree h1 (by simp only [RP])⟩
  · cases e1
theorem rd_boolop2 {c : Bool} {ta tb : TE} {fa fb : Slots → Store → Option ER} (ha : RdE M X.K W ta fa) (hb : RdE M X.K W tb fb) :
    RdE M X.K W (if c then tAndT X.K ta tb else tOrT X.K ta tb) fun φ st => R.bind (fa φ st) fun v st => match truL v st with
      | some b => if b == c then fb φ st else some (.ok v st)
      | none => none := by
  intro σ H Q φ F ρ st r hh hs e p
  cases c with
  | true =>
    show tAndT X.K ta tb σ H Q
    refine ha.bind hh hs e p fun x st1 F1 ρ1 H1 v e1 g1 h1 r1 p1 => ?_
    split at e1
    · rename_i b hb'
      refine ⟨b, rd_truL h1 r1 hb', ?_⟩
      cases b with
      | true =>
        rw [if_pos rfl]
        simp only [beq_self_eq_true, if_true] at e1
        exact hb σ H1 Q φ F1 ρ1 st1 r h1 (hs.g g1) e1 p1
      | false =>
        rw [if_neg Bool.false_ne_true]
        simp only [show (false == true) = false by rfl, Bool.false_eq_true, if_false, Option.some.injEq] at e1
        subst e1
        exact p1.here h1 r1
    · cases e1
  | false =>
    show tOrT X.K ta tb σ H Q
    refine ha.bind hh hs e p fun x st1 F1 ρ1 H1 v e1 g1 h1 r1 p1 => ?_
    split at e1
    · rename_i b hb'
      refine ⟨b, rd_truL h1 r1 hb', ?_⟩
      cases b with
      | true =>
        rw [if_pos rfl]
        simp only [show (true == false) = false by rfl, Bool.false_eq_true, if_false, Option.some.injEq] at e1
        subst e1
        exact p1.here h1 r1
      | false =>
        rw [if_neg Bool.false_ne_true]
        simp only [beq_self_eq_true, if_true] at e1
        exact hb σ H1 Q φ F1 ρ1 st1 r h1 (hs.g g1) e1 p1
    · cases e1
theorem rd_boolopT2 {c : Bool} {ta tb : TT} {fa fb : Slots → Store → Option ET} (ha : RdT M X.K W ta fa) (hb : RdT M X.K W tb fb) :
    RdT M X.K W (if c then tAnd ta tb else tOr ta tb) fun φ st => T.bt (fa φ st) fun b st => if b == c then fb φ st else some (.ok b st) := by
  intro σ H Q φ F ρ st r hh hs e p
  cases c with
  | true =>
    show tAnd ta tb σ H Q
    refine ha.bindT hh hs e p fun b st1 F1 ρ1 H1 e1 g1 h1 p1 => ?_
    cases b with
    | true =>
      rw [if_pos rfl]
      simp only [beq_self_eq_true, if_true] at e1
      exact hb σ H1 Q φ F1 ρ1 st1 r h1 (hs.g g1) e1 p1
    | false =>
      rw [if_neg Bool.false_ne_true]
      simp only [show (false == true) = false by rfl, Bool.false_eq_true, if_false, Option.some.injEq] at e1
      subst e1
      exact p1 F1 ρ1 H1 (G.refl _ _ _) h1
  | false =>
    show tOr ta tb σ H Q
    refine ha.bindT hh hs e p fun b st1 F1 ρ1 H1 e1 g1 h1 p1 => ?_
    cases b with
    | true =>
      rw [if_pos rfl]
      simp only [show (true == false) = false by rfl, Bool.false_eq_true, if_false, Option.some.injEq] at e1
      subst e1
      exact p1 F1 ρ1 H1 (G.refl _ _ _) h1
    | false =>
      rw [if_neg Bool.false_ne_true]
      simp only [beq_self_eq_true, if_true] at e1
      exact hb σ H1 Q φ F1 ρ1 st1 r h1 (hs.g g1) e1 p1
/-! ### isinstance -/
def tyS : Ty → String
  | .int => "int" | .bool => "bool" | .str => "str" | .list => "list" | .tuple => "tuple"
theorem kit_non : ∀ t : Ty, kitB "NoneType" (tyS t) = some false
  | .int => by decide +kernel
  | .bool => by decide +kernel
  | .str => by decide +kernel
  | .list => by decide +kernel
  | .tuple => by decide +kernel
theorem kit_bool : ∀ t : Ty, kitB "bool" (tyS t) = some (t == .bool || t == .int)
  | .int => by decide +kernel
  | .bool => by decide +kernel
  | .str => by decide +kernel
  | .list => by decide +kernel
  | .tuple => by decide +kernel
theorem kit_int : ∀ t : Ty, kitB "int" (tyS t) = some (t == .int)
  | .int => by decide +kernel
  | .bool => by decide +kernel
  | .str => by decide +kernel
  | .list => by decide +kernel
  | .tuple => by decide +kernel
theorem kit_str : ∀ t : Ty, kitB "str" (tyS t) = some (t == .str)
  | .int => by decide +kernel
  | .bool => by decide +kernel
  | .str => by decide +kernel
  | .list => by decide +kernel
  | .tuple => by decide +kernel
theorem kit_list : ∀ t : Ty, kitB "list" (tyS t) = some (t == .list)
  | .int => by decide +kernel
  | .bool => by decide +kernel
  | .str => by decide +kernel
  | .list => by decide +kernel
  | .tuple => by decide +kernel
theorem kit_tuple : ∀ t : Ty, kitB "tuple" (tyS t) = some (t == .tuple)
  | .int => by decide +kernel
  | .bool => by decide +kernel
  | .str => by decide +kernel
  | .list => by decide +kernel
  | .tuple => by decide +kernel
theorem ty_ok {K : PySem.W.Frag} {F H : Hp} (s : Sub F H) {t : Ty} {p : PV} {v : V} {b : Bool} (h : PK K F H p v) (e : isTy t p = some b) : ∃ c : String, TyX K H v (.type c) ∧ kitB c (tyS t) = some b := by
  cases p <;> simp only [isTy, Option.some.injEq, reduceCtorEq] at e
  case non => subst e; simp only [PK, RP] at h; subst h; exact ⟨"NoneType", .base .non, kit_non t⟩
  case bl c => subst e; simp only [PK, RP] at h; subst h; exact ⟨"bool", .base (.bl _), kit_bool t⟩
  case int i => subst e; rw [h.int]; exact ⟨"int", .base (.int _), kit_int t⟩
  case str x => subst e; rw [h.str.1]; exact ⟨"str", .base (.str _), kit_str t⟩
  case lst xs =>
    subst e
    obtain ⟨a, vs, e1, e2, e3⟩ := h
    subst e1
    exact ⟨"list", .base (.lst e2), kit_list t⟩
  case tup xs =>
    subst e
    simp only [PK, RP] at h
    obtain ⟨a, vs, e1, e2, e3⟩ := h
    subst e1
    exact ⟨"tuple", .base (.tup (s _ _ e2)), kit_tuple t⟩
theorem ty_boot : ∀ t : Ty, bootBuiltins (tyName t) = some (.type (tyS t))
  | .int => by decide +kernel
  | .bool => by decide +kernel
  | .str => by decide +kernel
  | .list => by decide +kernel
  | .tuple => by decide +kernel
theorem rd_isi {t : TE} {f : Slots → Store → Option ER} {ty : Ty} (h : RdE M X.K W t f) : RdE M X.K W (tCB (rIsi X.K) (tCons t (tCons (tC (.ty (tyS ty))) tNil))) fun φ st => R.bind (f φ st) fun x st => match peek st x with
    | some x => (isTy ty x).map fun b => .ok (.pv (.bl b)) st
    | none => none := by
  intro σ H Q φ F ρ st r hh hs e p
  refine h.bind hh hs e p fun x st1 F1 ρ1 H1 v e1 g1 h1 r1 p1 => ?_
  split at e1
  · rename_i q hq
    simp only [Option.map_eq_some_iff] at e1
    obtain ⟨b, e2, e3⟩ := e1
    subst e3
    obtain ⟨c, h2, h3⟩ := ty_ok h1.sub (peek_ok h1 r1 hq) e2
    exact ⟨v, .ty (tyS ty), .type c, .type (tyS ty), b, rfl, .ty _, h2, kit_ty h3, p1.tree h1 (by simp only [RP])⟩
  · cases e1
theorem base_plain {o : Expr} {m : Str} {env : Env} (h : (match o with
      | .Call _ [] _ _ => false
      | _ => true) = true) : attributeBase o m env (eval o env) = eval o env := by
  unfold attributeBase
  cases o <;> try rfl
  rename_i f args kws pos
  cases args with
  | nil => cases h
  | cons a as => cases f <;> rfl
theorem base_plainO {o : Expr} {m : Str} {env : Env} (h : plainO o = true) : attributeBase o m env (eval o env) = eval o env := by
  unfold attributeBase
  cases o <;> try rfl
  rename_i f args kws pos
  cases args with
  | cons a as => cases f <;> rfl
  | nil =>
    cases f <;> try rfl
    rename_i x p
    cases kws with
    | cons _ _ => rfl
    | nil =>
      have hx : (x != ("super" : Str)) = true := h
      simp only [hx, Bool.true_or, if_true, bind_pure]
end
end Z
end

section
/-! ZNa: what an except suite asks of the error that it names. -/
namespace Z
open PySem PySem.Spec PyProof.Rows L2
section
variable {X : Cx} {g : SC} {M : Nm} {S : Sem} {W : WX} {k : Nat}
theorem look_names {K : PySem.W.Frag} {F : Hp} (inj : ∀ f f', M.fnm f = M.fnm f' → f = f') {f : Nat} {p : PV} : ∀ {fs : List (Nat × PV)} {vs : List V}, RPs K F (fs.map (·.2)) vs → look f fs = some p → ∃ v, ((fs.map fun f => M.fnm f.1).zip vs).lookup (M.fnm f) = some v ∧ RP K F p v
  | [], vs, _, e => by simp [look] at e
  | (f', q) :: fs, vs, r, e => by
    simp only [List.map_cons, RPs] at r
    obtain ⟨v, vs', e1, e2, e3⟩ := r
    subst e1
    simp only [List.map_cons, List.zip_cons_cons]
    unfold look at e
    by_cases hf : f' = f
    · rw [if_pos hf] at e
      cases e
      subst hf
      exact ⟨v, by simp [List.lookup], e2⟩
    · rw [if_neg hf] at e
      obtain ⟨w, h1, h2⟩ := look_names inj e3 e
      refine ⟨w, ?_, h2⟩
      have hn : (M.fnm f == M.fnm f') = false := by
        simp only [beq_eq_false_iff_ne]
        exact fun z => hf (inj _ _ z).symm
      simp only [List.lookup, hn]
      exact h1
/-- the error in its slot -/
theorem cur_at (C : Cok X g M S W k) {i : Nat} (hx : g.exn = some i) : ∃ (X0 : Cx) (a : Addr) (oe : Obj) (cls : Value) (d : Option Addr) (pn : List (Addr × Obj)), X = X0.suite a ((a, oe) :: pn) ∧ M.cur = some (i, a, cls, d) ∧ Zc cls d oe ∧ ∃ vs, oe.data = .fields vs := by
  have h := C.cur
  rw [hx] at h
  exact h
theorem in_slot {F : Hp} {ρ : List Addr} {σ : L2.St} {φ : Slots} {K : PySem.W.Frag} {i : Nat} {a : Addr} {cls : Value} {d : Option Addr} {e : Ex} (hm : M.cur = some (i, a, cls, d)) (hs : SL M K F ρ σ φ) (h : φ[i]? = some (some (.exn e))) : σ[i]? = some (some (.ref a)) ∧ RF M K F e cls d := by
  obtain ⟨v, h1, a', cls', d', h2, h3, h4⟩ := hs.2 i _ h
  rw [hm] at h2
  cases h2
  rw [h3] at h1
  exact ⟨h1, h4⟩
theorem se_xfld (C : Cok X g M S W k) {i f : Nat} {x n : Str} {p pos : Pos} (hx : g.exn = some i) (hN : g.N[i]? = some x) (hv : vis? g x = true) (hf : g.T.fnames[f]? = some n) : SE X M S W (.xfld i f) (.Attribute (.Name x p) n pos) := by
  obtain ⟨X0, a, oe, cls, d, pn, hX, hm, hz, hd⟩ := cur_at C hx
  obtain ⟨v1, v2, v3⟩ := C.vis hv
  have hn := C.fname f n hf
  by_cases hc : ∃ (c : Nat) (ei : EI), g.T.errs[c]? = some ei ∧ cls = .ref (M.ead c) ∧ ∃ q ∈ ei.fl, q.1 = f
  · obtain ⟨c, ei, h1, h2, q, hq1, hq2⟩ := hc
    have E := C.errs c ei h1
    have hno := E.no q hq1
    rw [hq2, hn] at hno
    have pv : PE X (.Name x p) (tVar i) := pe_var (by rw [C.N]; exact hN) v1 v2 v3
    have xf := E.xf
    refine ⟨tXf a cls d (M.ead c) n (tVar i), ?_, ?_⟩
    · subst hX
      exact pe_xf (X := X0) xf hno hz hd pv rfl
    · intro σ H Q φ F ρ st r hh hs e post
      simp only [evE] at e
      split at e
      · rename_i ex hex
        split at e
        · rename_i nf hnf
          split at e
          · cases ql : look f ex.fs with
            | none => simp [ql, okP] at e
            | some pv =>
              simp only [ql, okP, Option.some.injEq] at e
              subst e
              obtain ⟨s1, r1, r2⟩ := in_slot hm hs hex
              rcases r2 with ⟨z, _⟩ | ⟨dd, vs, e1, e2, e3⟩
              · rw [z] at ql; simp [look] at ql
              · obtain ⟨v, l1, l2⟩ := look_names C.finj e3 ql
                rw [hn] at l1
                exact ⟨_, s1, rfl, h2, dd, _, v, e1, hh.sub _ _ e2, l1, post.tree hh l2⟩
          · cases e
        · cases e
      · cases e
  · refine ⟨fun _ _ _ => False, ⟨fun _ _ _ _ _ _ z => z.elim⟩, ?_⟩
    intro σ H Q φ F ρ st r hh hs e post
    simp only [evE] at e
    split at e
    · rename_i ex hex
      split at e
      · rename_i nf hnf
        split at e
        · rename_i ha
          obtain ⟨s1, r1, r2⟩ := in_slot hm hs hex
          obtain ⟨ei, h1⟩ := C.xerr ex.cls (by rw [hnf]; simp)
          have E := C.errs _ _ h1
          have hxin := E.xin
          rw [hnf] at hxin
          cases hxin
          obtain ⟨q, hq1, hq2⟩ := List.any_eq_true.mp ha
          exact hc ⟨ex.cls, ei, h1, r1, q, hq1, by simpa using hq2⟩
        · cases e
      · cases e
    · cases e
theorem se_xisi (C : Cok X g M S W k) {i c' : Nat} {x cn : Str} {ei' : EI} {p p1 p2 pos : Pos} (hx : g.exn = some i) (hN : g.N[i]? = some x) (hv : vis? g x = true) (hg : gl? g ("isinstance" : Str) = true) (hc' : gl? g cn = true) (he' : g.T.errs[c']? = some ei') (hn' : ei'.name = cn) :
    SE X M S W (.xisi i c') (.Call (.Name "isinstance" p) [.Name x p1, .Name cn p2] [] pos) := by
  obtain ⟨X0, a, oe, cls, d, pn, hX, hm, hz, hd⟩ := cur_at C hx
  obtain ⟨v1, v2, v3⟩ := C.vis hv
  obtain ⟨g1, g2⟩ := C.gl hg
  obtain ⟨g3, g4⟩ := C.gl hc'
  have E' := C.errs c' ei' he'
  by_cases hc : ∃ (c : Nat) (ei : EI), g.T.errs[c]? = some ei ∧ cls = .ref (M.ead c)
  · obtain ⟨c, ei, h1, h2⟩ := hc
    have E := C.errs c ei h1
    have pv : PE X (.Name x p1) (tVar i) := pe_var (by rw [C.N]; exact hN) v1 v2 v3
    have pc : PE X (.Name cn p2) (tC (.ref (M.ead c'))) := pe_glob g3 (by rw [← hn']; exact E'.adr) rfl g4
    have ec := E.ec
    have bis := C.bis
    refine ⟨tCB (rIsX X.K (M.ead c) a d) (tCons (tVar i) (tCons (tC (.ref (M.ead c'))) tNil)), ?_, ?_⟩
    · subst hX
      rw [h2] at hz
      exact pe_callB (call_isX ec hz hd) g1 bis (by decide +kernel) (pa_cons pv (pa_cons pc pa_nil)) (by decide) (by decide)
    · intro σ H Q φ F ρ st r hh hs e post
      simp only [evE] at e
      split at e
      · rename_i ex hex
        split at e
        · rename_i nf hnf
          simp only [Option.some.injEq] at e
          subst e
          obtain ⟨s1, r1, r2⟩ := in_slot hm hs hex
          obtain ⟨ei2, h3⟩ := C.xerr ex.cls (by rw [hnf]; simp)
          have E2 := C.errs _ _ h3
          have hk := (E2.sub c' ei' he').2
          have ea : M.ead ex.cls = M.ead c := by rw [r1] at h2; exact Value.ref.inj h2
          rw [ea] at hk
          refine ⟨_, s1, _, _, _, rfl, fun u hu => hu, ?_, hk, post.tree hh (by simp only [RP])⟩
          rcases r2 with ⟨_, z⟩ | ⟨dd, vs, e1, e2, _⟩
          · exact .inl z
          · exact .inr ⟨dd, _, e1, hh.sub _ _ e2⟩
        · cases e
      · cases e
  · refine ⟨fun _ _ _ => False, ⟨fun _ _ _ _ _ _ z => z.elim⟩, ?_⟩
    intro σ H Q φ F ρ st r hh hs e post
    simp only [evE] at e
    split at e
    · rename_i ex hex
      split at e
      · rename_i nf hnf
        obtain ⟨s1, r1, r2⟩ := in_slot hm hs hex
        obtain ⟨ei, h1⟩ := C.xerr ex.cls (by rw [hnf]; simp)
        exact hc ⟨ex.cls, ei, h1, r1⟩
      · cases e
    · cases e
end
end Z
end

section
/-! ZNb: instances. -/
namespace Z
open PySem PySem.Spec PyProof.Rows L2
section
theorem few_ok {es : List Expr} {env : Env} {cpos : Pos} (h : (es.all fun e => !isStar e) = true) (hl : es.length < 20) : ((backTo cpos (starEach es env)).all (fun x => !x.1) && (backToKw cpos (keywordEach [] env)).all (fun x => x.1.isSome)
      && decide (es.length + ([] : List Keyword).length + (if ([] : List Keyword).isEmpty then 0 else 1) < 30)) = true := by
  have h1 : (backTo cpos (starEach es env)).all (fun x => !x.1) = true := by
    have := star_plain (env := env) (pos := cpos) h
    rw [List.any_eq_false] at this
    rw [List.all_eq_true]
    intro x hx
    have h2 := this x hx
    simpa using h2
  rw [h1]
  simp only [Bool.true_and, Bool.and_eq_true, decide_eq_true_eq]
  exact ⟨rfl, by simp; omega⟩
end
section
variable {K : PySem.W.Frag} {F : Hp} {ρ : List Addr} {fnm : Nat → Str}
theorem look_zip (hi : ∀ f f', fnm f = fnm f' → f = f') {f : Nat} {x : LV} : ∀ {fs : List (Nat × LV)} {vs : List V}, RLs K F ρ (fs.map (·.2)) vs → look f fs = some x → ∃ v, ((fs.map fun q => fnm q.1).zip vs).lookup (fnm f) = some v ∧ RL K F ρ x v
  | [], _, _, e => by simp [look] at e
  | (g, y) :: fs, vs, r, e => by
    simp only [List.map_cons, RLs] at r
    obtain ⟨v, r', e1, e2, e3⟩ := r
    subst e1
    unfold look at e
    split at e
    · rename_i hg
      subst hg
      cases e
      exact ⟨v, by simp [List.lookup], e2⟩
    · rename_i hg
      obtain ⟨w, h1, h2⟩ := look_zip hi e3 e
      refine ⟨w, ?_, h2⟩
      have hb : (fnm f == fnm g) = false := by
        simp only [beq_eq_false_iff_ne]
        exact fun z => hg (hi _ _ z).symm
      simp only [List.map_cons, List.zip_cons_cons, List.lookup, hb]
      exact h1
theorem put_zip (hi : ∀ f f', fnm f = fnm f' → f = f') {f : Nat} {x : LV} {v : V} (rx : RL K F ρ x v) : ∀ {fs : List (Nat × LV)} {vs : List V}, RLs K F ρ (fs.map (·.2)) vs → ∃ vs', putF (fnm f) v ((fs.map fun q => fnm q.1).zip vs) = ((putFl f x fs).map fun q => fnm q.1).zip vs' ∧ RLs K F ρ ((putFl f x fs).map (·.2)) vs'
  | [], vs, r => by
    simp only [List.map_nil, RLs] at r
    subst r
    exact ⟨[v], rfl, by simp only [putFl, List.map_cons, List.map_nil, RLs]; exact ⟨v, [], rfl, rx, rfl⟩⟩
  | (g, y) :: fs, vs, r => by
    simp only [List.map_cons, RLs] at r
    obtain ⟨w, r', e1, e2, e3⟩ := r
    subst e1
    by_cases hg : g = f
    · subst hg
      refine ⟨v :: r', ?_, ?_⟩
      · simp only [List.map_cons, List.zip_cons_cons, putF, putFl, if_true]
      · simp only [putFl, if_true, List.map_cons, RLs]
        exact ⟨v, r', rfl, rx, e3⟩
    · obtain ⟨vs', h1, h2⟩ := put_zip hi rx e3
      refine ⟨w :: vs', ?_, ?_⟩
      · simp only [List.map_cons, List.zip_cons_cons, putF, putFl, if_neg hg]
        rw [if_neg (fun z => hg (hi _ _ z)), h1]
      · simp only [putFl, if_neg hg, List.map_cons, RLs]
        exact ⟨w, vs', rfl, e2, h2⟩
theorem zip_none {m : Str} : ∀ {fs : List (Nat × LV)} {vs : List V}, (∀ q ∈ fs, fnm q.1 ≠ m) → ((fs.map fun q => fnm q.1).zip vs).lookup m = none
  | [], _, _ => rfl
  | (g, y) :: fs, [], _ => rfl
  | (g, y) :: fs, v :: vs, h => by
    have hb : (m == fnm g) = false := by
      simp only [beq_eq_false_iff_ne]
      exact fun z => h (g, y) List.mem_cons_self z.symm
    simp only [List.map_cons, List.zip_cons_cons, List.lookup, hb]
    exact zip_none fun q hq => h q (List.mem_cons_of_mem _ hq)
end
section
variable {X : Cx} {g : SC} {M : Nm} {S : Sem} {W : WX} {k : Nat}
theorem ins_at {F H : Hp} {ρ : List Addr} {st : Store} {c nf : Nat} {x : LV} {v : V} (hh : HR' M X.K F ρ H st) (r : RL X.K F ρ x v) (h : isIns c nf x st = true) :
    ∃ n a fs dx vs, x = .ref n ∧ v = .ref a ∧ ρ[n]? = some a ∧ st[n]? = some (.ins c fs) ∧ (∀ q ∈ fs, q.1 < nf) ∧ H a = some (.ins (M.cad c) dx ((fs.map fun q => M.fnm q.1).zip vs)) ∧ RLs X.K F ρ (fs.map (·.2)) vs ∧ F a = none := by
  cases x <;> simp only [isIns, Bool.false_eq_true] at h
  rename_i n
  simp only [RL] at r
  obtain ⟨a, e1, e2⟩ := r
  obtain ⟨cc, e3, hc⟩ := hh.at e2
  rw [e3] at h
  cases cc <;> simp only [Bool.false_eq_true] at h
  rename_i D fs
  simp only [Bool.and_eq_true, beq_iff_eq, List.all_eq_true, decide_eq_true_eq] at h
  obtain ⟨h1, h2⟩ := h
  subst h1
  obtain ⟨dx, vs, h3, h4, h5⟩ := hc
  exact ⟨n, a, fs, dx, vs, rfl, e1, e2, e3, h2, h3, h4, h5⟩
theorem Cok.nfn (C : Cok X g M S W k) {q : Nat} (h : q < S.nf) {m : Str} (hm : g.T.fnames.contains m = false) : M.fnm q ≠ m := by
  have hl : q < g.T.fnames.length := Nat.lt_of_lt_of_le h C.nf
  have := C.fname q _ (List.getElem?_eq_getElem hl)
  rw [this]
  intro z
  have h2 : g.T.fnames.contains m = true := List.contains_iff_mem.mpr (by rw [← z]; exact List.getElem_mem hl)
  rw [hm] at h2; cases h2
theorem se_fld (C : Cok X g M S W k) {c f : Nat} {a : ME} {x : Expr} {n : Str} {pos : Pos} (h1 : (match x with
      | .Call _ [] _ _ => false
      | _ => true) = true) (h2 : g.T.fnames[f]? = some n) (h3 : (match g.T.cls[c]? with
      | some ci => ci.fields.contains f
      | none => false) = true) (ha : SE X M S W a x) : SE X M S W (.fld c a f) (.Attribute x n pos) := by
  obtain ⟨ta, a1, a2⟩ := ha
  refine ⟨_, pe_fld a1 (base_plain h1), ?_⟩
  split at h3
  · rename_i ci hci
    have CC := C.cls c ci hci
    have hn : M.fnm f = n := C.fname f n h2
    intro σ H Q φ F ρ st r hh hs e p
    simp only [evE] at e
    refine a2.bind hh hs e p fun y st1 F1 ρ1 H1 v e1 g1 h1 r1 p1 => ?_
    split at e1
    · rename_i hi
      obtain ⟨m, b, fs, dx, vs, ex, ev, er, es, hf, hH, hr, _⟩ := ins_at h1 r1 hi
      subst ex ev
      simp only [getF, es] at e1
      split at e1
      · rename_i z hz
        simp only [Option.some.injEq] at e1
        subst e1
        obtain ⟨u, l1, l2⟩ := look_zip C.finj hr hz
        rw [hn] at l1
        exact ⟨b, _, dx, _, u, rfl, hH, CC.cl, by rw [← hn]; exact CC.no f (by simpa using h3), l1, p1.here h1 l2⟩
      · cases e1
    · cases e1
  · cases h3
theorem se_mcall (C : Cok X g M S W k) {c f : Nat} {a : ME} {es : List ME} {o : Expr} {xs : List Expr} {n : Str} {apos cpos : Pos} (hot : g.hot = false) (hline : (apos.endLine == cpos.line) = true) (h1 : plainO o = true) (hl : es.length < 20) (h3 : (match g.T.cls[c]? with
      | some ci => ci.meths.contains (n, f, es.length + 1) && !g.T.fnames.contains n
      | none => false) = true) (ha : SE X M S W a o) (hs : SEs X M S W es xs) : SE X M S W (.mcall c f a es) (.Call (.Attribute o n apos) xs [] cpos) := by
  obtain ⟨ta, a1, a2⟩ := ha
  have st := hs.star
  have len := hs.len
  have few := few_ok (env := X.env) (cpos := cpos) st (by rw [← len]; exact hl)
  have ht := mtree (apos := apos) (base_plainO (m := n) (env := X.env) h1) few hline
  split at h3
  · rename_i ci hci
    simp only [Bool.and_eq_true, Bool.not_eq_true'] at h3
    obtain ⟨h3, hfn⟩ := h3
    have CC := C.cls c ci hci
    obtain ⟨b, fd, ps, Mt, F, hb⟩ := CC.meth n f _ (by simpa using h3)
    have main : ∀ {t : TA}, RdA M X.K W t (evEs S es) → RdE M X.K W (tMethG (M.cad c) n (spOf M X.K (S.cal f) (es.length + 1)) (fun σ cls d H => W cls d σ H) ta t) (evE S (.mcall c f a es)) := by
      intro t hA σ H Q φ F ρ st r hh hs e p
      simp only [evE] at e
      refine a2.bind hh hs e p fun y st1 F1 ρ1 H1 v e1 g1 h1 r1 p1 => ?_
      split at e1
      · rename_i hi
        obtain ⟨m, b, fs, dx, vs, ex, ev, er, es', hf, hH, hr, _⟩ := ins_at h1 r1 hi
        subst ev
        refine ⟨b, dx, _, rfl, hH, zip_none fun q hq => C.nfn (hf q hq) hfn, ?_⟩
        cases q : evEs S es φ st1 with
        | none => rw [q] at e1; cases e1
        | some rs =>
          rw [q] at e1
          cases rs with
          | ex z st2 =>
            have e' : r = .ex z st2 := (Option.some.inj e1).symm
            subst e'
            exact hA σ H1 _ φ F1 ρ1 st1 _ h1 (hs.g g1) q p1
          | ok zs st2 =>
            refine hA σ H1 _ φ F1 ρ1 st1 _ h1 (hs.g g1) q fun F2 ρ2 H2 us g2 h2 r2 => ?_
            exact rd_call (args := y :: zs) h2 (by simp only [RLs]; exact ⟨_, us, rfl, RL.mono g2.sub g2.pre _ _ r1, r2⟩) (by rw [List.length_cons, ← r2.length, evEs_len q]) e1 (p1.g g2)
      · cases e1
    cases xs with
    | nil =>
      have hes : es = [] := List.length_eq_zero_iff.mp len
      refine ⟨_, pe_methG0 a1 CC.cl Mt F (C.hr hot) (C.gd hot) hb (fun σ => L2N.passAt C.takes σ) ht, ?_⟩
      have hA : RdA M X.K W tNil (evEs S es) := by
        subst hes
        intro σ H Q φ F ρ st r hh hs e p
        simp only [evEs, Option.some.injEq] at e
        subst e
        exact p F ρ H [] (G.refl F ρ H) hh (by simp only [RLs])
      exact main hA
    | cons y ys =>
      obtain ⟨t, b1, b2⟩ := hs.pa
      simp only [List.all_cons, Bool.and_eq_true, Bool.not_eq_true'] at st
      exact ⟨_, pe_methG a1 CC.cl Mt F (C.hr hot) (C.gd hot) hb (fun σ => L2N.passAt C.takes σ) b1 (star_each st.1) (star_plain st.2) ht, main b2⟩
  · cases h3
theorem se_new (C : Cok X g M S W k) {c f : Nat} {es : List ME} {x : Str} {xs : List Expr} {p pos : Pos} (hot : g.hot = false) (hg : gl? g x = true) (h3 : (match g.T.cls[c]? with
      | some ci => decide (ci.name = x) && ci.meths.contains ("__init__", f, es.length + 1)
      | none => false) = true) (hs : SEs X M S W es xs) : SE X M S W (.new c f es) (.Call (.Name x p) xs [] pos) := by
  have st := hs.star
  have len := hs.len
  obtain ⟨g1, g2⟩ := C.gl hg
  split at h3
  · rename_i ci hci
    simp only [Bool.and_eq_true, decide_eq_true_eq] at h3
    obtain ⟨hn, h3⟩ := h3
    have CC := C.cls c ci hci
    obtain ⟨b, fd, ps, j, hj, Mt, F, hb⟩ := CC.make f _ (by simpa using h3)
    have hm := CC.adr
    rw [hn] at hm
    have room : Room (j + 1) X.A := (C.hr hot).mono hj
    have main : ∀ {t : TA}, RdA M X.K W t (evEs S es) → RdE M X.K W (tMakeG (M.cad c) (spOf M X.K (S.cal1 f) (es.length + 1)) (fun σ cls d H => W cls d σ H) t) (evE S (.new c f es)) := by
      intro t hA σ H Q φ F ρ st r hh hs e p
      simp only [evE] at e
      cases q : evEs S es φ st with
      | none => rw [q] at e; cases e
      | some rs =>
        rw [q] at e
        cases rs with
        | ex z st2 =>
          have e' : r = .ex z st2 := (Option.some.inj e).symm
          subst e'
          exact hA σ H _ φ F ρ st _ hh hs q p
        | ok zs st1 =>
          refine hA σ H _ φ F ρ st _ hh hs q fun F1 ρ1 H1 us g1 h1 r1 x dx nx nd ne => ?_
          have p1 := p.g g1
          have e' : S.make c f zs st1 = some r := e
          unfold Sem.make at e'
          refine ⟨by rw [List.length_cons, ← r1.length, evEs_len q], ?_⟩
          obtain ⟨ga, ha⟩ := h1.laid nd (.own x)
          have nx2 : (upd H1 dx (.own x)) x = none := by rw [upd_ne (Ne.symm ne)]; exact nx
          obtain ⟨gb, hb2⟩ := ha.cellN nx2 (o := .ins (M.cad c) dx []) (c := .ins c []) ⟨dx, [], upd_same, by simp only [List.map_nil, RLs], by have := h1.fresh nx; exact this⟩
          have gab := ga.trans gb
          have hlen : (ρ1 ++ [x]).length = st1.length + 1 := by rw [List.length_append, h1.len]; rfl
          have rargs : RLs X.K F1 (ρ1 ++ [x]) (.ref st1.length :: zs) (.ref x :: us) := by
            simp only [RLs, RL]
            exact ⟨_, us, rfl, ⟨x, rfl, by rw [← h1.len]; simp⟩, RLs.mono (Sub.refl F1) (Pre.snoc ρ1 x) _ _ r1⟩
          cases q0 : S.cal1 f (.ref st1.length :: zs) (st1 ++ [.ins c []]) with
          | none => rw [q0] at e'; cases e'
          | some r0 =>
            rw [q0] at e'
            refine ⟨F1, ρ1 ++ [x], _, _, r0, hb2, rargs, q0, ?_⟩
            cases r0 with
            | ex z st2 =>
              simp only [Option.some.injEq] at e'
              subst e'
              intro F' ρ' H' cls d g' h' rx
              obtain ⟨ρ2, g2, h2, _⟩ := trunc_ok (ok := true) h1.len (gab.trans g') h'
              exact p1 F' ρ2 H' cls d g2 h2 rx
            | ok z st2 =>
              cases z with
              | pv pz =>
                cases pz with
                | non =>
                  simp only [Option.some.injEq] at e'
                  subst e'
                  intro F' ρ' H' v g' h' rv
                  simp only [RL, RP] at rv
                  refine ⟨rv, ?_⟩
                  obtain ⟨ρ2, g2, h2, _⟩ := trunc_ok (ok := true) hlen g' h'
                  refine p1 F' ρ2 H' (.ref x) (gab.trans g2) h2 ?_
                  simp only [RL]
                  exact ⟨x, rfl, g2.pre _ _ (by rw [← h1.len]; simp)⟩
                | _ => cases e'
              | _ => cases e'
    cases xs with
    | nil =>
      have hes : es = [] := List.length_eq_zero_iff.mp len
      refine ⟨_, pe_makeG0 Mt F room (C.gd hot) g1 hm hb (fun σ => L2N.passAt C.takes σ) g2, ?_⟩
      have hA : RdA M X.K W tNil (evEs S es) := by
        subst hes
        intro σ H Q φ F ρ st r hh hs e p
        simp only [evEs, Option.some.injEq] at e
        subst e
        exact p F ρ H [] (G.refl F ρ H) hh (by simp only [RLs])
      exact main hA
    | cons y ys =>
      obtain ⟨t, b1, b2⟩ := hs.pa
      simp only [List.all_cons, Bool.and_eq_true, Bool.not_eq_true'] at st
      exact ⟨_, pe_makeG Mt F room (C.gd hot) g1 hm hb (fun σ => L2N.passAt C.takes σ) b1 g2 (star_each st.1) (star_plain st.2), main b2⟩
  · cases h3
end
end Z
end

section
/-! ZOm: methods of built-in types. -/
namespace Z
open PySem PySem.Spec PyProof.Rows L2
section
variable {X : Cx} {g : SC} {M : Nm} {S : Sem} {W : WX} {k : Nat}
def bmT : BM → String
  | .append | .pop0 | .extend | .insert | .index => "list"
  | .get2 => "dict"
  | .join => "str"
def rGet2 : V → List V → Hp → VK → Prop := fun x vs H Q => ∃ a y d o, x = .ref a ∧ vs = [y, d] ∧ DGet H a y o ∧ Q (o.getD d) H
theorem mt_get2 (hu : room2 X) : MtR X "dict.get" rGet2 := by
  intro pins s σ H x ys u us Q I ru rus h
  obtain ⟨a, y, d, o, ex, exs, g, q⟩ := h
  subst ex exs
  obtain rfl : u = Value.ref a := ru
  obtain ⟨u1, u2, e, r1, r2⟩ := Vals.two rus
  subst e
  exact d_get2 (by have h1 : X.A.units + 600 < cLine := hu; omega) I g r1 r2 fun w' s3 I3 rw' => ⟨_, H, I3, rw', q⟩
def rIns : V → List V → Hp → VK → Prop := fun x vs H Q => ∃ (l : Addr) (xs : List V) (i : Int) (y : V), x = .ref l ∧ vs = [.int i, y] ∧ H l = some (.lst xs) ∧ xs.length < sizeLine ∧ 0 ≤ i ∧ i < 2 ^ 63 ∧
  Q .non (upd H l (.lst (xs.take i.toNat ++ [y] ++ xs.drop i.toNat)))
def rJoin (K : PySem.W.Frag) : V → List V → Hp → VK → Prop := fun x xs H Q => ∃ a p, ∃ ys : List Str, x = .str a ∧ xs = [.ref p] ∧ (SqL K H p (ys.map V.str) ∨ SqT K H p (ys.map V.str)) ∧
  (ys.map (·.length)).sum + ys.length * a.length ≤ 16777216 ∧ Q (.str (Txt.join a ys)) H
def rBM (K : PySem.W.Frag) : BM → V → List V → Hp → VK → Prop
  | .append => rAppend
  | .get2 => rGet2
  | .pop0 => rPop
  | .extend => rExtend
  | .insert => rIns
  | .index => rIndex K
  | .join => rJoin K
theorem mtM_R {id : String} {r : V → List V → Hp → VK → Prop} (h : MtM X id r) : MtR X id r := h
/-- the facts of a method -/
structure BmOk (X : Cx) (m : BM) (id : String) : Prop where
  pa : PlainAttrs (bmT m)
  slot : Slot (bmT m) (bmName m) id
  ty : typeOf (.builtin id) = pure (.type "method_descriptor")
  mt : MtR X id (rBM X.K m)
theorem bm_ok (hu : room2 X) : ∀ m : BM, ∃ id, BmOk X m id
  | .append => ⟨_, PySem.F.plainAttrs_list, PySem.F.slot_list_append, PySem.F.type_list_append, mtM_R mt_append⟩
  | .get2 => ⟨_, PySem.F.plainAttrs_dict, PySem.F.slot_dict_get, PySem.F.type_dict_get, mt_get2 hu⟩
  | .pop0 => ⟨_, PySem.F.plainAttrs_list, PySem.F.slot_list_pop, PySem.F.type_list_pop, mtM_R mt_pop⟩
  | .extend => ⟨_, PySem.F.plainAttrs_list, PySem.F.slot_list_extend, PySem.F.type_list_extend, mtM_R mt_extend⟩
  | .insert => ⟨_, PySem.F.plainAttrs_list, PySem.F.slot_list_insert, PySem.F.type_list_insert, mt_insert⟩
  | .index => ⟨_, PySem.F.plainAttrs_list, PySem.F.slot_list_index, PySem.F.type_list_index, mt_index⟩
  | .join => ⟨_, PySem.F.plainAttrs_str, PySem.F.slot_str_join, PySem.F.type_str_join, mt_join⟩
/-! ### what they may be called on -/
theorem ty_bm {F H : Hp} {ρ : List Addr} {st : Store} {m : BM} {x : LV} {v : V} (hh : HR' M X.K F ρ H st) (r : RL X.K F ρ x v) (h : bmOk m x st = true) : tyV X.K (bmT m) v H := by
  have lists : ∀ a, (∃ vs, H a = some (.lst vs)) → tyV X.K "list" (.ref a) H := fun a ⟨vs, e⟩ => .inl ⟨rfl, vs, .inl (.inl e)⟩
  have dicts : ∀ a, ((∃ ks, H a = some (.dK ks)) ∨ ∃ ks, H a = some (.dT ks)) → tyV X.K "dict" (.ref a) H := fun a e => .inr (.inr (.inl ⟨rfl, e⟩))
  have cellL : ∀ n a, ρ[n]? = some a → (match st[n]? with
    | some (Cell.lst ..) => true
    | _ => false) = true → ∃ vs, H a = some (.lst vs) := fun n a ea hc => by
    obtain ⟨c, ec, hcr⟩ := hh.at ea
    rw [ec] at hc
    cases c <;> simp at hc
    obtain ⟨vs, h1, _⟩ := hcr
    exact ⟨vs, h1⟩
  cases x with
  | tup _ => cases m <;> simp [bmOk] at h
  | exn _ => cases m <;> simp [bmOk] at h
  | pv p =>
    cases m <;> cases p <;> simp only [bmOk, Bool.false_eq_true] at h
    · simp only [RL, RP] at r
      obtain ⟨a, ks, e1, e2, _⟩ := r
      subst e1
      exact dicts _ (.inl ⟨ks, hh.sub _ _ e2⟩)
    · simp only [RL, RP] at r
      obtain ⟨a, ks, e1, e2, _⟩ := r
      subst e1
      exact dicts _ (.inr ⟨ks, hh.sub _ _ e2⟩)
    · simp only [RL, RP] at r
      rw [r.1]
      exact rfl
    · simp only [RL, RP] at r
      obtain ⟨a, ks, e1, e2, _⟩ := r
      subst e1
      exact lists _ ⟨ks, hh.sub _ _ e2⟩
  | ref n =>
    simp only [RL] at r
    obtain ⟨a, e1, e2⟩ := r
    subst e1
    cases m <;> simp only [bmOk, Bool.false_eq_true] at h
    case get2 =>
      obtain ⟨c, ec, hc⟩ := hh.at e2
      rw [ec] at h
      cases c <;> simp at h
      · obtain ⟨vs, h1, _⟩ := hc
        exact dicts _ (.inl ⟨vs, h1⟩)
      · obtain ⟨vs, h1, _⟩ := hc
        exact dicts _ (.inr ⟨vs, h1⟩)
    all_goals exact lists _ (cellL n a e2 h)
/-! ### what they do -/
theorem rd_get2 {F H : Hp} {ρ : List Addr} {st : Store} {σ : L2.St} {x kx d : LV} {v kv dv : V} {q pk : PV} {Q : VK} {r : ER} (hh : HR' M X.K F ρ H st) (hx : PK X.K F H q v) (hk : PK X.K F H pk kv)
    (e : (match some q, some pk, d with
      | some (.dk kvs), some k, .pv d => (match keyK k with
        | some k => some (.ok (.pv ((look k kvs).getD d)) st)
        | none => none)
      | some (.dt kvs), some k, .pv d => (match keyT k with
        | some k => some (.ok (.pv ((look k kvs).getD d)) st)
        | none => none)
      | _, _, _ => none) = some r) (p : PostE M X.K W σ F ρ H Q r) (hd : RL X.K F ρ d dv) : rGet2 v [kv, dv] H Q := by
  cases d with
  | ref _ => cases q <;> simp at e
  | tup _ => cases q <;> simp at e
  | exn _ => cases q <;> simp at e
  | pv d =>
    simp only [RL] at hd
    cases q <;> simp only [reduceCtorEq] at e
    · split at e
      · rename_i k hkk
        simp only [Option.some.injEq] at e
        subst e
        obtain ⟨a, ea, dd⟩ := dget_k hx hk hkk
        rcases dd with ⟨l, dd⟩ | ⟨z, u, l, dd, rz⟩
        · refine ⟨a, kv, dv, none, ea, rfl, dd, ?_⟩
          rw [l] at p
          exact p.tree hh hd
        · refine ⟨a, kv, dv, some u, ea, rfl, dd, ?_⟩
          rw [l] at p
          exact p.tree hh rz
      · cases e
    · split at e
      · rename_i k hkk
        simp only [Option.some.injEq] at e
        subst e
        obtain ⟨a, ea, dd⟩ := dget_t hh.sub hx hk hkk
        rcases dd with ⟨l, dd⟩ | ⟨z, u, l, dd, rz⟩
        · refine ⟨a, kv, dv, none, ea, rfl, dd, ?_⟩
          rw [l] at p
          exact p.tree hh hd
        · refine ⟨a, kv, dv, some u, ea, rfl, dd, ?_⟩
          rw [l] at p
          exact p.tree hh rz
      · cases e
theorem one_arg {F : Hp} {ρ : List Addr} {xs : List LV} {vs : List V} (rs : RLs X.K F ρ xs vs) {y : LV} (h : xs = [y]) : ∃ w, vs = [w] ∧ RL X.K F ρ y w := by
  subst h
  simp only [RLs] at rs
  obtain ⟨w, r', e1, ry, e2⟩ := rs
  subst e1 e2
  exact ⟨w, rfl, ry⟩
theorem live_at {F H : Hp} {ρ : List Addr} {st : Store} {n : Nat} {v : V} {zs : List LV} (hh : HR' M X.K F ρ H st) (rx : RL X.K F ρ (.ref n) v) (e : st[n]? = some (.lst true zs)) :
    ∃ a ws, v = .ref a ∧ ρ[n]? = some a ∧ H a = some (.lst ws) ∧ RLs X.K F ρ zs ws ∧ F a = none := by
  simp only [RL] at rx
  obtain ⟨a, ev, ea⟩ := rx
  obtain ⟨c, ec, hc⟩ := hh.at ea
  rw [ec] at e
  cases e
  obtain ⟨ws, h1, h2, h3, h4⟩ := hc
  exact ⟨a, ws, ev, ea, h1, h2, h3 rfl⟩
theorem RLs.dropLast {K : PySem.W.Frag} {F : Hp} {ρ : List Addr} : ∀ {xs : List LV} {vs : List V}, RLs K F ρ xs vs → RLs K F ρ xs.dropLast vs.dropLast
  | [], vs, h => by
    simp only [RLs] at h
    subst h
    simp [RLs]
  | [x], vs, h => by
    simp only [RLs] at h
    obtain ⟨v, r, e1, _, e3⟩ := h
    subst e1 e3
    simp [RLs]
  | x :: y :: xs, vs, h => by
    simp only [RLs] at h
    obtain ⟨v, r, e1, e2, v2, r2, e3, e4, e5⟩ := h
    subst e1 e3
    have ih := RLs.dropLast (xs := y :: xs) (vs := v2 :: r2) (by simp only [RLs]; exact ⟨v2, r2, rfl, e4, e5⟩)
    simp only [List.dropLast_cons₂, RLs]
    exact ⟨v, _, rfl, e2, ih⟩
theorem RLs.take {K : PySem.W.Frag} {F : Hp} {ρ : List Addr} : ∀ {xs : List LV} {vs : List V} (n : Nat), RLs K F ρ xs vs → RLs K F ρ (xs.take n) (vs.take n)
  | xs, _, 0, h => by simp [RLs]
  | [], vs, n + 1, h => by simp only [RLs] at h; subst h; simp [RLs]
  | x :: xs, vs, n + 1, h => by
    simp only [RLs] at h
    obtain ⟨v, r, e1, e2, e3⟩ := h
    subst e1
    simp only [List.take_succ_cons, RLs]
    exact ⟨v, _, rfl, e2, RLs.take n e3⟩
theorem RLs.drop {K : PySem.W.Frag} {F : Hp} {ρ : List Addr} : ∀ {xs : List LV} {vs : List V} (n : Nat), RLs K F ρ xs vs → RLs K F ρ (xs.drop n) (vs.drop n)
  | _, _, 0, h => h
  | [], vs, n + 1, h => by simp only [RLs] at h; subst h; simp [RLs]
  | x :: xs, vs, n + 1, h => by
    simp only [RLs] at h
    obtain ⟨v, r, e1, e2, e3⟩ := h
    subst e1
    simpa using RLs.drop n e3
theorem sq_ok {F H : Hp} {ρ : List Addr} {st : Store} {y : LV} {w : V} {ys : List LV} (hh : HR' M X.K F ρ H st) (ry : RL X.K F ρ y w) (e : sq st y = some ys) : ∃ b zs, w = .ref b ∧ H b = some (.lst zs) ∧ RLs X.K F ρ ys zs := by
  unfold sq at e
  split at e
  · rename_i n
    split at e
    · rename_i live zs hz
      simp only [Option.some.injEq] at e
      subst e
      simp only [RL] at ry
      obtain ⟨a, ev, ea⟩ := ry
      obtain ⟨c, ec, hc⟩ := hh.at ea
      rw [ec] at hz
      cases hz
      obtain ⟨ws, h1, h2, _⟩ := hc
      exact ⟨a, ws, ev, h1, h2⟩
    · cases e
  · rename_i ps
    simp only [Option.some.injEq] at e
    subst e
    simp only [RL, RP] at ry
    obtain ⟨a, ws, e1, e2, e3⟩ := ry
    exact ⟨a, ws, e1, hh.sub _ _ e2, RLs_pv.mpr e3⟩
  · cases e
theorem strs_vals {F : Hp} : ∀ {ps : List PV} {ss : List Sg} {vs : List V}, strsOf ps = some ss → RPs X.K F ps vs → vs = (ss.map mkS).map V.str ∧ ∀ s ∈ ss, okS s = true
  | [], ss, vs, e, h => by
    simp only [strsOf, Option.some.injEq] at e
    subst e
    simp only [RPs] at h
    exact ⟨h, fun _ q => by simp at q⟩
  | .str s :: ps, ss, vs, e, h => by
    simp only [strsOf, Option.map_eq_some_iff] at e
    obtain ⟨ms, e1, e2⟩ := e
    subst e2
    simp only [RPs, RP] at h
    obtain ⟨v, r, h1, h2, h3⟩ := h
    obtain ⟨k1, k2⟩ := strs_vals e1 h3
    subst h1 k1
    refine ⟨by rw [h2.1]; rfl, fun z hz => ?_⟩
    rcases List.mem_cons.mp hz with q | q
    · rw [q]; exact h2.2
    · exact k2 z q
  | .non :: _, _, _, e, _ => by simp [strsOf] at e
  | .bl _ :: _, _, _, e, _ => by simp [strsOf] at e
  | .int _ :: _, _, _, e, _ => by simp [strsOf] at e
  | .tup _ :: _, _, _, e, _ => by simp [strsOf] at e
  | .lst _ :: _, _, _, e, _ => by simp [strsOf] at e
  | .dk _ :: _, _, _, e, _ => by simp [strsOf] at e
  | .dt _ :: _, _, _, e, _ => by simp [strsOf] at e
  | .scr _ :: _, _, _, e, _ => by simp [strsOf] at e
theorem joinS_eq (a : Sg) : ∀ ss : List Sg, joinS a ss = TL.joinL a ss
  | [] => rfl
  | [_] => rfl
  | x :: y :: r => by
    unfold joinS TL.joinL
    rw [joinS_eq a (y :: r)]
theorem okS_app {a b : Sg} (h : okS a = true) (h' : okS b = true) : okS (a ++ b) = true := by
  unfold okS at *
  rw [List.all_append, h, h']; rfl
theorem okS_join {a : Sg} (h : okS a = true) : ∀ {ss : List Sg}, (∀ s ∈ ss, okS s = true) → okS (joinS a ss) = true
  | [], _ => rfl
  | [x], h' => h' x (by simp)
  | x :: y :: r, h' => by
    unfold joinS
    exact okS_app (h' x (by simp)) (okS_app h (okS_join h fun s hs => h' s (List.mem_cons_of_mem _ hs)))
theorem rd_app {F H : Hp} {ρ : List Addr} {st : Store} {σ : L2.St} {x y : LV} {v : V} {vs : List V} {Q : VK} {r : ER} (hh : HR' M X.K F ρ H st) (rx : RL X.K F ρ x v) (rs : RLs X.K F ρ [y] vs) (e : doBM .append x [y] st = some r) (p : PostE M X.K W σ F ρ H Q r) : rAppend v vs H Q := by
  obtain ⟨w, e1, ry⟩ := one_arg rs rfl
  subst e1
  simp only [doBM] at e
  split at e
  · split at e
    · rename_i n zs hz
      obtain ⟨a, ws, ev, ea, h1, h2, h3⟩ := live_at hh rx hz
      split at e
      · rename_i hl
        simp only [Option.some.injEq] at e
        subst e
        refine ⟨a, ws, w, ev, rfl, h1, by rw [← h2.length, line_eq]; exact hl, ?_⟩
        obtain ⟨g2, hh2⟩ := hh.write ea h3 (o := .lst (ws ++ [w])) (c := .lst true (zs ++ [y])) ⟨_, upd_same, h2.snoc ry, fun _ => h3, fun z => Bool.noConfusion z⟩
        exact p _ _ _ _ g2 hh2 (by simp only [RL, RP])
      · cases e
    · cases e
  · cases e
theorem rd_pop0 {F H : Hp} {ρ : List Addr} {st : Store} {σ : L2.St} {x : LV} {v : V} {vs : List V} {Q : VK} {r : ER} (hh : HR' M X.K F ρ H st) (rx : RL X.K F ρ x v) (rs : RLs X.K F ρ [] vs) (e : doBM .pop0 x [] st = some r) (p : PostE M X.K W σ F ρ H Q r) : rPop v vs H Q := by
  simp only [RLs] at rs
  subst rs
  simp only [doBM] at e
  split at e
  · split at e
    · rename_i n zs hz
      obtain ⟨a, ws, ev, ea, h1, h2, h3⟩ := live_at hh rx hz
      split at e
      · rename_i y hy
        simp only [Option.some.injEq] at e
        subst e
        rw [List.getLast?_eq_getElem?] at hy
        obtain ⟨w, k1, k2⟩ := h2.get hy
        refine ⟨a, ws, w, ev, rfl, h1, by rw [← h2.length]; exact k1, ?_⟩
        obtain ⟨g2, hh2⟩ := hh.write ea h3 (o := .lst ws.dropLast) (c := .lst true zs.dropLast) ⟨_, upd_same, RLs.dropLast h2, fun _ => h3, fun z => Bool.noConfusion z⟩
        exact p _ _ _ _ g2 hh2 k2
      · cases e
    · cases e
  · cases e
theorem rd_extend {F H : Hp} {ρ : List Addr} {st : Store} {σ : L2.St} {x y : LV} {v : V} {vs : List V} {Q : VK} {r : ER} (hh : HR' M X.K F ρ H st) (rx : RL X.K F ρ x v) (rs : RLs X.K F ρ [y] vs) (e : doBM .extend x [y] st = some r) (p : PostE M X.K W σ F ρ H Q r) : rExtend v vs H Q := by
  obtain ⟨w, e1, ry⟩ := one_arg rs rfl
  subst e1
  simp only [doBM] at e
  split at e
  · split at e
    · rename_i n q1 q2 zs ys hz hq
      obtain ⟨a, ws, ev, ea, h1, h2, h3⟩ := live_at hh rx hz
      obtain ⟨b, us, ew, k1, k2⟩ := sq_ok hh ry hq
      split at e
      · rename_i hl
        simp only [Option.some.injEq] at e
        subst e
        refine ⟨a, b, ws, us, ev, by rw [ew], h1, k1, by rw [← h2.length, ← k2.length, line_eq]; exact hl, ?_⟩
        obtain ⟨g2, hh2⟩ := hh.write ea h3 (o := .lst (ws ++ us)) (c := .lst true (zs ++ ys)) ⟨_, upd_same, h2.append k2, fun _ => h3, fun z => Bool.noConfusion z⟩
        exact p _ _ _ _ g2 hh2 (by simp only [RL, RP])
      · cases e
    · cases e
  · cases e
theorem rd_insert {F H : Hp} {ρ : List Addr} {st : Store} {σ : L2.St} {x y z : LV} {v : V} {vs : List V} {Q : VK} {r : ER} (hh : HR' M X.K F ρ H st) (rx : RL X.K F ρ x v) (rs : RLs X.K F ρ [y, z] vs) (e : doBM .insert x [y, z] st = some r) (p : PostE M X.K W σ F ρ H Q r) : rIns v vs H Q := by
  simp only [RLs] at rs
  obtain ⟨wy, r', e1, ry, wz, r'', e2, rz, e3⟩ := rs
  subst e1 e2 e3
  simp only [doBM] at e
  split at e
  · rename_i q1 q2 n i
    simp only [RL, RP] at ry
    split at e
    · rename_i q3 zs hz
      obtain ⟨a, ws, ev, ea, h1, h2, h3⟩ := live_at hh rx hz
      split at e
      · rename_i hl
        simp only [Option.some.injEq] at e
        subst e
        refine ⟨a, ws, i, wz, ev, by rw [ry], h1, by rw [← h2.length, line_eq]; exact hl.1, hl.2.1, hl.2.2, ?_⟩
        have hr : RLs X.K F ρ (zs.take i.toNat ++ [z] ++ zs.drop i.toNat) (ws.take i.toNat ++ [wz] ++ ws.drop i.toNat) := ((RLs.take _ h2).snoc rz).append (RLs.drop _ h2)
        obtain ⟨g2, hh2⟩ := hh.write ea h3 (o := .lst (ws.take i.toNat ++ [wz] ++ ws.drop i.toNat)) (c := .lst true (zs.take i.toNat ++ [z] ++ zs.drop i.toNat)) ⟨_, upd_same, hr, fun _ => h3, fun z => Bool.noConfusion z⟩
        exact p _ _ _ _ g2 hh2 (by simp only [RL, RP])
      · cases e
    · cases e
  · cases e
theorem rd_join {F H : Hp} {ρ : List Addr} {st : Store} {σ : L2.St} {x y : LV} {v : V} {vs : List V} {Q : VK} {r : ER} (hh : HR' M X.K F ρ H st) (rx : RL X.K F ρ x v) (rs : RLs X.K F ρ [y] vs) (e : doBM .join x [y] st = some r) (p : PostE M X.K W σ F ρ H Q r) : rJoin X.K v vs H Q := by
  obtain ⟨w, e1, ry⟩ := one_arg rs rfl
  subst e1
  simp only [doBM] at e
  split at e
  · rename_i q1 q2 a xs hxs
    simp only [RL, RP] at rx
    have hk := peek_ok hh ry hxs
    obtain ⟨b, ws, k1, k2, k3⟩ := hk
    split at e
    · rename_i ss hss
      split at e
      · rename_i hl
        simp only [Option.some.injEq] at e
        subst e
        obtain ⟨m1, m2⟩ := strs_vals hss k3
        refine ⟨mkS a, b, ss.map mkS, rx.1, by rw [k1], .inl (.inl (.inl (by rw [← m1]; exact k2))), ?_, ?_⟩
        · rw [List.map_map, List.length_map, mkS_len]
          have : ((fun x : Str => x.length) ∘ mkS) = fun s : Sg => s.length := by funext s; exact mkS_len s
          rw [this]
          exact hl
        · have ej : Txt.join (mkS a) (ss.map mkS) = mkS (joinS a ss) := by
            rw [joinS_eq]
            exact SX.join_S a ss
          rw [ej]
          exact p.tree hh (by simp only [RP, true_and]; exact okS_join rx.2 m2)
      · cases e
    · cases e
  · cases e
theorem rd_index {F H : Hp} {ρ : List Addr} {st : Store} {σ : L2.St} {x y : LV} {v : V} {vs : List V} {Q : VK} {r : ER} (hh : HR' M X.K F ρ H st) (rx : RL X.K F ρ x v) (rs : RLs X.K F ρ [y] vs) (e : doBM .index x [y] st = some r) (p : PostE M X.K W σ F ρ H Q r) : rIndex X.K v vs H Q := by
  obtain ⟨w, e1, ry⟩ := one_arg rs rfl
  subst e1
  simp only [doBM] at e
  split at e
  · rename_i xs z hxs hz
    obtain ⟨b, ws, k1, k2, k3⟩ := peek_ok hh rx hxs
    have hkz := peek_ok hh ry hz
    split at e
    · rename_i hf
      simp only [Bool.and_eq_true] at hf
      split at e
      · rename_i j hj
        simp only [Option.some.injEq] at e
        subst e
        obtain ⟨hj1, hj2, hj3⟩ := List.findIdx?_eq_some_iff_getElem.mp hj
        obtain ⟨u, u1, u2⟩ := k3.get (List.getElem?_eq_getElem hj1)
        refine ⟨b, ws, w, j, u, k1, rfl, .inl (.inl k2), flat_ok hf.1 hkz, flats_ok hf.2 k3, u1, ?_, fun m z' hm hz' => ?_, p.tree hh (by simp only [RP])⟩
        · rw [flat_eq (List.all_eq_true.mp hf.2 _ (List.getElem_mem hj1)) hf.1 (PK.of hh.sub u2) hkz]
          exact hj2
        · have hml : m < xs.length := Nat.lt_trans hm hj1
          obtain ⟨u', v1, v2⟩ := k3.get (List.getElem?_eq_getElem hml)
          rw [v1] at hz'
          cases hz'
          rw [flat_eq (List.all_eq_true.mp hf.2 _ (List.getElem_mem hml)) hf.1 (PK.of hh.sub v2) hkz]
          simpa using hj3 m hm
      · cases e
    · cases e
  · cases e
theorem rd_bm {F H : Hp} {ρ : List Addr} {st : Store} {σ : L2.St} {m : BM} {x : LV} {v : V} {xs : List LV} {vs : List V} {Q : VK} {r : ER} (hh : HR' M X.K F ρ H st) (rx : RL X.K F ρ x v) (rs : RLs X.K F ρ xs vs) (e : doBM m x xs st = some r) (p : PostE M X.K W σ F ρ H Q r) :
    rBM X.K m v vs H Q := by
  cases m with
  | append =>
    match xs, rs, e with
    | [y], rs, e => exact rd_app hh rx rs e p
    | [], _, e => simp [doBM] at e
    | _ :: _ :: _, _, e => simp [doBM] at e
  | pop0 =>
    match xs, rs, e with
    | [], rs, e => exact rd_pop0 hh rx rs e p
    | _ :: _, _, e => simp [doBM] at e
  | extend =>
    match xs, rs, e with
    | [y], rs, e => exact rd_extend hh rx rs e p
    | [], _, e => simp [doBM] at e
    | _ :: _ :: _, _, e => simp [doBM] at e
  | insert =>
    match xs, rs, e with
    | [y, z], rs, e => exact rd_insert hh rx rs e p
    | [], _, e => simp [doBM] at e
    | [_], _, e => simp [doBM] at e
    | _ :: _ :: _ :: _, _, e => simp [doBM] at e
  | join =>
    match xs, rs, e with
    | [y], rs, e => exact rd_join hh rx rs e p
    | [], _, e => simp [doBM] at e
    | _ :: _ :: _, _, e => simp [doBM] at e
  | index =>
    match xs, rs, e with
    | [y], rs, e => exact rd_index hh rx rs e p
    | [], _, e => simp [doBM] at e
    | _ :: _ :: _, _, e => simp [doBM] at e
  | get2 =>
    match xs, rs, e with
    | [kx, d], rs, e =>
      simp only [RLs] at rs
      obtain ⟨kv, r', e1, rk, dv, r'', e2, rd, e3⟩ := rs
      subst e1 e2 e3
      simp only [doBM] at e
      cases qx : peek st x with
      | none => simp [qx] at e
      | some q =>
        cases qk : peek st kx with
        | none => rw [qx, qk] at e; cases q <;> simp at e
        | some pk =>
          rw [qx, qk] at e
          exact rd_get2 (x := x) (kx := kx) (q := q) (pk := pk) (d := d) hh (peek_ok hh rx qx) (peek_ok hh rk qk) e p rd
    | [], _, e => simp [doBM] at e
    | [_], _, e => simp [doBM] at e
    | _ :: _ :: _ :: _, _, e => simp [doBM] at e
theorem rd_bmC {m : BM} {to : TE} {t : TA} {fo : Slots → Store → Option ER} {fa : Slots → Store → Option ERs} (ho : RdE M X.K W to fo) (ha : RdA M X.K W t fa) :
    RdE M X.K W (tBM X.K (bmT m) (rBM X.K m) to t) fun φ st => R.bind (fo φ st) fun x st => if bmOk m x st then Rs.bind (fa φ st) fun vs st => doBM m x vs st else none := by
  intro σ H Q φ F ρ st r hh hs e p
  refine ho.bind hh hs e p fun x st1 F1 ρ1 H1 v e1 g1 h1 r1 p1 => ?_
  split at e1
  · rename_i hok
    refine ⟨ty_bm h1 r1 hok, ?_⟩
    refine ha.bind h1 (hs.g g1) e1 p1 fun xs st2 F2 ρ2 H2 vs e2 g2 h2 r2 p2 => ?_
    exact rd_bm h2 (RL.mono g2.sub g2.pre _ _ r1) r2 e2 p2
  · cases e1
theorem rd_bmC0 {m : BM} {to : TE} {fo : Slots → Store → Option ER} (ho : RdE M X.K W to fo) :
    RdE M X.K W (tBM0 X.K (bmT m) (rBM X.K m) to) fun φ st => R.bind (fo φ st) fun x st => if bmOk m x st then Rs.bind (some (.ok [] st)) fun vs st => doBM m x vs st else none := by
  intro σ H Q φ F ρ st r hh hs e p
  refine ho.bind hh hs e p fun x st1 F1 ρ1 H1 v e1 g1 h1 r1 p1 => ?_
  split at e1
  · rename_i hok
    exact ⟨ty_bm h1 r1 hok, rd_bm h1 r1 (by simp only [RLs]) e1 p1⟩
  · cases e1
theorem se_bm (hu : room2 X) {m : BM} {r : ME} {es : List ME} {o : Expr} {xs : List Expr} {apos cpos : Pos} (hl : es.length = bmAr m) (hline : (apos.endLine == cpos.line) = true) (hb : (match o with
      | .Call _ [] _ _ => false
      | _ => true) = true) (ho : SE X M S W r o) (hs : SEs X M S W es xs) : SE X M S W (.bm m r es) (.Call (.Attribute o (bmName m) apos) xs [] cpos) := by
  obtain ⟨to, o1, o2⟩ := ho
  obtain ⟨id, B⟩ := bm_ok hu m
  have st := hs.star
  have len := hs.len
  have few : xs.length < 20 := by
    rw [← len, hl]
    cases m <;> decide
  cases xs with
  | nil =>
    have hes : es = [] := List.length_eq_zero_iff.mp len
    subst hes
    refine ⟨_, pe_bm0 B.pa B.slot B.ty B.mt o1 (base_plain hb) hline, fun σ H Q φ F ρ st r hh hs e p => rd_bmC0 o2 σ H Q φ F ρ st r hh hs (by simpa only [evE, evEs] using e) p⟩
  | cons y ys =>
    obtain ⟨t, a1, a2⟩ := hs.pa
    have st' := st
    simp only [List.all_cons, Bool.and_eq_true, Bool.not_eq_true'] at st
    refine ⟨_, pe_bm B.pa B.slot B.ty B.mt o1 a1 (base_plain hb) (few_ok st' few) hline (star_each st.1) (star_plain st.2), fun σ H Q φ F ρ st r hh hs e p => rd_bmC o2 a2 σ H Q φ F ρ st r hh hs (by simpa only [evE] using e) p⟩
end
end Z
end

section
/-! ZP: the theorem for expressions, all constructs. -/
namespace Z
open PySem PySem.Spec PyProof.Rows L2
section
variable {X : Cx} {g : SC} {M : Nm} {S : Sem} {W : WX} {k : Nat}
theorem boolop_ok (c : Bool) (pos : Pos) : ∀ {ms : List ME} {es : List Expr}, ms ≠ [] → SEs X M S W ms es → ∃ t, PE X (.BoolOp (if c then .And else .Or) es pos) t ∧ RdE M X.K W t (evB S c ms)
  | [], _, h, _ => absurd rfl h
  | [m], es, _, h => by
    obtain ⟨e, r, h1, h2, ⟨t, h3, h4⟩, h5⟩ := h
    have h5' : r = [] := h5
    subst h1 h5'
    exact ⟨_, pe_one h3, fun σ H Q φ F ρ st r hh hs e p => h4 σ H Q φ F ρ st r hh hs (by simpa only [evB] using e) p⟩
  | m :: m' :: ms, es, _, h => by
    obtain ⟨e, r, h1, h2, ⟨t, h3, h4⟩, h5⟩ := h
    subst h1
    obtain ⟨t', h6, h7⟩ := boolop_ok c pos (ms := m' :: ms) (es := r) (by simp) h5
    obtain ⟨e', r', h8, _⟩ := h5
    subst h8
    refine ⟨if c then tAndT X.K t t' else tOrT X.K t t', ?_, fun σ H Q φ F ρ st r hh hs e p => rd_boolop2 h4 h7 σ H Q φ F ρ st r hh hs (by simp only [evB] at e; exact e) p⟩
    cases c with
    | true => exact pe_andT h3 h6
    | false => exact pe_orT h3 h6
theorem boolopT_ok (c : Bool) (pos : Pos) : ∀ {ms : List MT} {es : List Expr}, ms ≠ [] → STs X M S W ms es → ∃ t, PW X (.BoolOp (if c then .And else .Or) es pos) t ∧ RdT M X.K W t (evBT S c ms)
  | [], _, h, _ => absurd rfl h
  | [m], es, _, h => by
    obtain ⟨e, r, h1, ⟨t, h3, h4⟩, h5⟩ := h
    have h5' : r = [] := h5
    subst h1 h5'
    refine ⟨t, ?_, fun σ H Q φ F ρ st r hh hs e p => h4 σ H Q φ F ρ st r hh hs (by simpa only [evBT] using e) p⟩
    cases c with
    | true => exact pw_and1 h3
    | false => exact pw_or1 h3
  | m :: m' :: ms, es, _, h => by
    obtain ⟨e, r, h1, ⟨t, h3, h4⟩, h5⟩ := h
    subst h1
    obtain ⟨t', h6, h7⟩ := boolopT_ok c pos (ms := m' :: ms) (es := r) (by simp) h5
    obtain ⟨e', r', h8, _⟩ := h5
    subst h8
    refine ⟨if c then tAnd t t' else tOr t t', ?_, fun σ H Q φ F ρ st r hh hs e p => rd_boolopT2 h4 h7 σ H Q φ F ρ st r hh hs (by simp only [evBT] at e; exact e) p⟩
    cases c with
    | true => exact pw_and h3 h6
    | false => exact pw_or h3 h6
theorem rd_cmpT {ta tb : TE} {fa fb : Slots → Store → Option ER} (ha : RdE M X.K W ta fa) (hb : RdE M X.K W tb fb) (op : CO) :
    RdT M X.K W (tTest (tOp (rCmp X.K op) ta tb)) fun φ st => R.bt (fa φ st) fun x st => R.bt (fb φ st) fun y st => cmpT op x y st := by
  intro σ H Q φ F ρ st res hh hs e p
  show ta σ H _
  refine ha.bindT hh hs e p fun x st1 F1 ρ1 H1 v e1 g1 h1 r1 p1 => ?_
  refine hb.bindT h1 (hs.g g1) e1 p1 fun y st2 F2 ρ2 H2 w e2 g2 h2 r2 p2 => ?_
  unfold cmpT at e2
  have r1' := RL.mono g2.sub g2.pre x v r1
  cases ex : peek st2 x with
  | none => simp [ex] at e2
  | some a =>
    cases ey : peek st2 y with
    | none => simp [ex, ey] at e2
    | some b =>
      simp only [ex, ey, Option.map_eq_some_iff] at e2
      obtain ⟨c, e3, e4⟩ := e2
      subst e4
      refine rd_cmpP (W := W) (σ := σ) (st := st2) h2 (peek_ok h2 r1' ex) (peek_ok h2 r2 ey) e3 fun F3 ρ3 H3 z g3 h3 r3 => ?_
      simp only [RL, RP] at r3
      exact ⟨c, r3, p2 F3 ρ3 H3 g3 h3⟩
theorem rd_isnT {t : TE} {f : Slots → Store → Option ER} {neg : Bool} (h : RdE M X.K W t f) : RdT M X.K W (tTest (tIsNB neg t)) fun φ st => R.bt (f φ st) fun x st => match x with
    | .pv .non => some (.ok (!neg) st)
    | _ => some (.ok neg st) := by
  intro σ H Q φ F ρ st r hh hs e p
  show t σ H _
  refine h.bindT hh hs e p fun x st1 F1 ρ1 H1 v e1 g1 h1 r1 p1 => ⟨rfl, ?_⟩
  have hn := RL_non r1
  split at e1
  · simp only [Option.some.injEq] at e1
    subst e1
    refine ⟨_, rfl, ?_⟩
    rw [decide_eq_true (hn.mpr rfl), Bool.xor_true]
    exact p1 F1 ρ1 H1 (G.refl _ _ _) h1
  · rename_i hx
    simp only [Option.some.injEq] at e1
    subst e1
    refine ⟨_, rfl, ?_⟩
    rw [decide_eq_false (fun z => hx (hn.mp z)), Bool.xor_false]
    exact p1 F1 ρ1 H1 (G.refl _ _ _) h1
/-- one reading for all blocks -/
theorem all_PE {ι : Type} {Xs : ι → Cx} {e : Expr} {f : Slots → Store → Option ER} {K : PySem.W.Frag} {W : WX} (h : ∀ i, ∃ t, PE (Xs i) e t ∧ RdE M K W t f) : ∃ t, (∀ i, PE (Xs i) e t) ∧ RdE M K W t f := by
  refine ⟨fun σ H Q => ∀ i, Classical.choose (h i) σ H Q, fun i => ⟨fun pins s σ H Q I q => (Classical.choose_spec (h i)).1.run pins s σ H Q I (q i)⟩, fun σ H Q φ F ρ st r hh hs ev p i => (Classical.choose_spec (h i)).2 σ H Q φ F ρ st r hh hs ev p⟩
theorem all_PT {ι : Type} {Xs : ι → Cx} {e : Expr} {f : Slots → Store → Option ET} {K : PySem.W.Frag} {W : WX} (h : ∀ i, ∃ t, PT (Xs i) e t ∧ RdT M K W t f) : ∃ t, (∀ i, PT (Xs i) e t) ∧ RdT M K W t f := by
  refine ⟨fun σ H Q => ∀ i, Classical.choose (h i) σ H Q, fun i => ⟨fun pins s σ H Q I q => (Classical.choose_spec (h i)).1.run pins s σ H Q I (q i)⟩, fun σ H Q φ F ρ st r hh hs ev p i => (Classical.choose_spec (h i)).2 σ H Q φ F ρ st r hh hs ev p⟩
theorem all_PG {ι : Type} {Xs : ι → Cx} {e : Expr} {m : MG} {K : PySem.W.Frag} (h : ∀ i, ∃ t, PG (Xs i) e t ∧ RdG M K t m) : ∃ t, (∀ i, PG (Xs i) e t) ∧ RdG M K t m := by
  refine ⟨fun v σ H Q => ∀ i, Classical.choose (h i) v σ H Q, fun i => ⟨fun pins s σ H v u Q I r q => (Classical.choose_spec (h i)).1.run pins s σ H v u Q I r (q i)⟩, fun x v φ φ' σ F ρ H st Q hh hs r ev p i => (Classical.choose_spec (h i)).2 x v φ φ' σ F ρ H st Q hh hs r ev p⟩
structure Blk where
  s : Shared
  H : Hp
  A : Addr
  cl : List (Str × Addr)
  fp : List Addr
abbrev Blk.cx (b : Blk) (X : Cx) (scope : Scope) : Cx := X.blk b.s b.H scope (compEnvC scope b.cl b.A X.env) b.fp
/-- a turn of a comprehension -/
theorem turn_nil {te : TE} {elt : ME} (he : RdE M X.K W0 te (evE S elt)) : RdTurn M X.K tYes te fun φ st => evIf S [] φ st fun st => R.bs (evE S elt φ st) fun y st => some (.ok [y] st) := by
  intro φ σ F ρ H st st' ys U U0 hh hs e p
  show (if true = true then te σ H U else U0 H)
  rw [if_pos rfl]
  simp only [evIf] at e
  cases q : evE S elt φ st with
  | none => rw [q] at e; cases e
  | some r =>
    rw [q] at e
    cases r with
    | ex x st1 => simp [R.bs] at e
    | ok y st1 =>
      simp only [R.bs, Option.some.injEq, ERs.ok.injEq] at e
      obtain ⟨e1, e2⟩ := e
      subst e1 e2
      exact he σ H U φ F ρ st _ hh hs q fun F1 ρ1 H1 v g1 h1 r1 => (p F1 ρ1 H1 g1 h1).2 y v rfl r1
theorem turn_one {tt : TT} {te : TE} {elt : ME} {t : MT} (ht : RdT M X.K W0 tt (evT S t)) (he : RdE M X.K W0 te (evE S elt)) : RdTurn M X.K tt te fun φ st => evIf S [t] φ st fun st => R.bs (evE S elt φ st) fun y st => some (.ok [y] st) := by
  intro φ σ F ρ H st st' ys U U0 hh hs e p
  simp only [evIf] at e
  cases qt : evT S t φ st with
  | none => rw [qt] at e; cases e
  | some rt =>
    rw [qt] at e
    cases rt with
    | ex x st1 => simp at e
    | ok b st1 =>
      refine ht σ H _ φ F ρ st _ hh hs qt fun F1 ρ1 H1 g1 h1 => ?_
      cases b with
      | false =>
        rw [if_neg Bool.false_ne_true]
        simp only [Option.some.injEq, ERs.ok.injEq] at e
        obtain ⟨e1, e2⟩ := e
        subst e1 e2
        exact (p F1 ρ1 H1 g1 h1).1 rfl
      | true =>
        rw [if_pos rfl]
        simp only at e
        cases q : evE S elt φ st1 with
        | none => rw [q] at e; cases e
        | some r =>
          rw [q] at e
          cases r with
          | ex x st2 => simp [R.bs] at e
          | ok y st2 =>
            simp only [R.bs, Option.some.injEq, ERs.ok.injEq] at e
            obtain ⟨e1, e2⟩ := e
            subst e1 e2
            exact he σ H1 U φ F1 ρ1 st1 _ h1 (hs.g g1) q fun F2 ρ2 H2 v g2 h2 r2 => (p F2 ρ2 H2 (g1.trans g2) h2).2 y v rfl r2
/-- the tests of a clause -/
def SIf (X : Cx) (M : Nm) (S : Sem) (ifs : List MT) (is : List Expr) : Prop := (ifs = [] ∧ is = []) ∨ ∃ t e, ifs = [t] ∧ is = [e] ∧ ST X M S W0 t e
theorem rd_frz {t : TE} {f : Slots → Store → Option ER} (h : RdE M X.K W t f) : RdE M X.K W t fun φ st => R.bind (f φ st) fun x st => (frz x st).map fun p => .ok (.pv p.1) p.2 := by
  intro σ H Q φ F ρ st r hh hs e p
  refine h.bind hh hs e p fun x st1 F1 ρ1 H1 v e1 g1 h1 r1 p1 => ?_
  simp only [Option.map_eq_some_iff] at e1
  obtain ⟨q, e2, e3⟩ := e1
  subst e3
  obtain ⟨F2, g2, h2, r2⟩ := frz_ok h1 r1 (p := q.1) (st' := q.2) e2
  exact p1 F2 ρ1 H1 v g2 h2 (by simp only [RL]; exact r2)
theorem rd_callC {f n : Nat} {t : TA} {ms : List ME} (hn : ms.length = n) (h : RdA M X.K W t (evEs S ms)) : RdE M X.K W (tCallG (spOf M X.K (S.cal f) n) (fun σ cls d H => W cls d σ H) t) (evE S (.call f ms)) := by
  intro σ H Q φ F ρ st r hh hs e p
  simp only [evE] at e
  cases q : evEs S ms φ st with
  | none => rw [q] at e; cases e
  | some rs =>
    rw [q] at e
    cases rs with
    | ex x st1 =>
      have e' : r = .ex x st1 := (Option.some.inj e).symm
      subst e'
      exact h σ H _ φ F ρ st _ hh hs q p
    | ok xs st1 =>
      refine h σ H _ φ F ρ st _ hh hs q fun F1 ρ1 H1 vs g1 h1 r1 => ?_
      show spOf M X.K (S.cal f) n vs H1 Q (fun cls d H => W cls d σ H)
      exact rd_call h1 r1 (by rw [← r1.length, evEs_len q, hn]) e (p.g g1)
theorem rd_callCH {f n : Nat} {t : TA} {ms : List ME} (hn : ms.length = n) (h : RdA M X.K W t (evEs S ms)) : RdE M X.K W (tCallS (spOf M X.K (S.cal f) n) (fun σ cls d H => W cls d σ H) t) (evE S (.call f ms)) := by
  intro σ H Q φ F ρ st r hh hs e p
  simp only [evE] at e
  cases q : evEs S ms φ st with
  | none => rw [q] at e; cases e
  | some rs =>
    rw [q] at e
    cases rs with
    | ex x st1 =>
      have e' : r = .ex x st1 := (Option.some.inj e).symm
      subst e'
      exact h σ H _ φ F ρ st _ hh hs q p
    | ok xs st1 =>
      refine h σ H _ φ F ρ st _ hh hs q fun F1 ρ1 H1 vs g1 h1 r1 => ?_
      show spOf M X.K (S.cal f) n vs H1 Q (fun cls d H => W cls d σ H)
      exact rd_call h1 r1 (by rw [← r1.length, evEs_len q, hn]) e (p.g g1)
theorem rd_biC {b : BI} {t : TA} {ms : List ME} (h : RdA M X.K W t (evEs S ms)) : RdE M X.K W (tCB (rBI X.K b) t) (evE S (.bi b ms)) := by
  intro σ H Q φ F ρ st r hh hs e p
  simp only [evE] at e
  refine h.bind hh hs e p fun xs st1 F1 ρ1 H1 vs e1 g1 h1 r1 p1 => ?_
  split at e1
  · rename_i n hn
    simp only [Option.some.injEq] at e1
    subst e1
    unfold lenB at hn
    split at hn
    · rename_i x
      simp only [RLs] at r1
      obtain ⟨w, r', k1, k2, k3⟩ := r1
      subst k1 k3
      obtain ⟨a, ws, ev, hl, ho⟩ := rd_lenL h1 k2 hn
      subst ev
      refine ⟨.ref a, n, rfl, ?_, p1.tree h1 (by simp only [RP])⟩
      rcases ho with ho | ho
      · exact .inl ⟨ws, .inl (.inl ho), hl.symm⟩
      · exact .inr ⟨ws, .inl (.inl ho), hl.symm⟩
    · cases hn
  split at e1
  · rename_i ps hp
    cases qz : doBI b ps with
    | none => simp [qz, okP] at e1
    | some z =>
      simp only [qz, okP, Option.some.injEq] at e1
      subst e1
      exact rd_bi h1 (peeks_ok h1 r1 hp) qz p1
  · cases e1
end
section
variable {M : Nm} {S : Sem} {k : Nat}
mutual
theorem snd : ∀ (m : ME) (g : SC) (X : Cx) (W : WX) (e : Expr), Cok X g M S W k → chkE g m e = true → SE X M S W m e
  | .var i, g, X, W, e, C, h => by
    cases e <;> simp only [chkE, Bool.and_eq_true, decide_eq_true_eq, Bool.false_eq_true] at h
    obtain ⟨h1, h2, h3⟩ := C.vis h.2
    exact ⟨_, pe_var (i := i) (by rw [C.N]; exact h.1) h1 h2 h3, rd_var i⟩
  | .lit p, g, X, W, e, C, h => by
    cases e <;> simp only [chkE, Bool.false_eq_true] at h
    obtain ⟨v, h1, h2⟩ := lit_ok (X := X) h
    exact ⟨_, h1, rd_const h2 fun φ st => .inl (by simp only [evE])⟩
  | .glb i, g, X, W, e, C, h => by
    cases e <;> simp only [chkE, Bool.and_eq_true, decide_eq_true_eq, Bool.false_eq_true] at h
    obtain ⟨h1, h2⟩ := C.gl h.2
    cases q : S.glb i with
    | none =>
      refine ⟨_, ⟨fun _ _ _ _ _ _ z => z.elim⟩, (show RdE M X.K W (fun _ _ _ => False) _ from fun σ H Q φ F ρ st r hh hs e p => ?_)⟩
      simp only [evE, q, okP] at e
      cases e
    | some p =>
      obtain ⟨u, v, h3, h4, _, h5⟩ := C.glb i _ p h.1 q
      exact ⟨_, pe_glob h1 h3 h4 h2, rd_const h5 fun φ st => .inl (by simp only [evE, q, okP])⟩
  | .tup es, g, X, W, e, C, h => by
    cases e <;> simp only [chkE, Bool.false_eq_true] at h
    obtain ⟨t, h1, h2⟩ := (snds es g X W _ C h).pa
    exact ⟨_, pe_tup h1, rd_tup h2⟩
  | .lst live es, g, X, W, e, C, h => by
    cases e <;> simp only [chkE, Bool.false_eq_true] at h
    obtain ⟨t, h1, h2⟩ := (snds es g X W _ C h).pa
    exact ⟨_, pe_lst h1, rd_lst h2⟩
  | .dnew t, g, X, W, e, C, h => by
    unfold chkE at h
    split at h
    · cases t with
      | true => exact ⟨_, pe_dnewT, rd_dnew true⟩
      | false => exact ⟨_, pe_dnewK, rd_dnew false⟩
    · cases h
  | .bin op a b, g, X, W, e, C, h => by
    cases e <;> simp only [chkE, Bool.and_eq_true, decide_eq_true_eq, Bool.false_eq_true] at h
    obtain ⟨⟨h1, h2⟩, h3⟩ := h
    subst h1
    obtain ⟨ta, a1, a2⟩ := snd a g X W _ C h2
    obtain ⟨tb, b1, b2⟩ := snd b g X W _ C h3
    exact ⟨_, pe_op (op_bin op) a1 b1, rd_op a2 b2 (rd_bin op)⟩
  | .cmp op a b, g, X, W, e, C, h => by
    unfold chkE at h
    split at h
    · simp only [Bool.and_eq_true, decide_eq_true_eq, Bool.not_eq_true'] at h
      obtain ⟨⟨⟨h1, hs⟩, h2⟩, h3⟩ := h
      subst h1
      obtain ⟨ta, a1, a2⟩ := snd a g X W _ C h2
      obtain ⟨tb, b1, b2⟩ := snd b g X W _ C h3
      exact ⟨_, pe_cmpR (op_cmp C.un op) a1 b1 (noSet hs _), rd_op a2 b2 (rd_cmp op)⟩
    · cases h
  | .boolop c es, g, X, W, e, C, h => by
    cases e <;> simp only [chkE, Bool.and_eq_true, decide_eq_true_eq, Bool.not_eq_true', Bool.false_eq_true] at h
    obtain ⟨⟨h1, h2⟩, h3⟩ := h
    subst h1
    obtain ⟨t, h4, h5⟩ := boolop_ok c _ (by intro z; subst z; simp at h2) (snds es g X W _ C h3)
    exact ⟨t, h4, fun σ H Q φ F ρ st r hh hs e p => h5 σ H Q φ F ρ st r hh hs (by simpa only [evE] using e) p⟩
  | .not a, g, X, W, e, C, h => by
    unfold chkE at h
    split at h
    · obtain ⟨t, h1, h2⟩ := snd a g X W _ C h
      exact ⟨_, pe_notT h1, rd_not h2⟩
    · cases h
  | .neg a, g, X, W, e, C, h => by
    unfold chkE at h
    split at h
    · obtain ⟨t, h1, h2⟩ := snd a g X W _ C h
      exact ⟨_, pe_un un_neg h1, rd_neg h2⟩
    · cases h
  | .ite c a b, g, X, W, e, C, h => by
    cases e <;> simp only [chkE, Bool.and_eq_true, Bool.false_eq_true] at h
    obtain ⟨tc, c1, c2⟩ := sndT c g X W _ C h.1.1
    obtain ⟨ta, a1, a2⟩ := snd a g X W _ C h.1.2
    obtain ⟨tb, b1, b2⟩ := snd b g X W _ C h.2
    exact ⟨_, pe_ifExp c1 a1 b1, rd_ite c2 a2 b2⟩
  | .idx a i, g, X, W, e, C, h => by
    cases e <;> simp only [chkE, Bool.and_eq_true, Bool.not_eq_true', Bool.false_eq_true] at h
    obtain ⟨ta, a1, a2⟩ := snd a g X W _ C h.1.2
    obtain ⟨tb, b1, b2⟩ := snd i g X W _ C h.2
    exact ⟨_, pe_ix (ix_Z C.un) a1 b1 (plainIx h.1.1), rd_op a2 b2 rd_getI⟩
  | .slc a l lo hb hi, g, X, W, e, C, h => by
    unfold chkE at h
    split at h
    · rename_i x le ue p1 p2
      simp only [Bool.and_eq_true] at h
      obtain ⟨⟨h1, h2⟩, h3⟩ := h
      obtain ⟨ta, a1, a2⟩ := snd a g X W _ C h1
      have lp : ∃ t, PO X le t ∧ RdO M X.K W t l (fun φ st => if l then evE S lo φ st else some (.ok (.pv .non) st)) := by
        cases le with
        | none =>
          simp only [Bool.not_eq_true'] at h2
          subst h2
          exact ⟨_, po_none, rdo_none⟩
        | some le =>
          simp only [Bool.and_eq_true] at h2
          obtain ⟨h4, h5⟩ := h2
          subst h4
          obtain ⟨t, b1, b2⟩ := snd lo g X W _ C h5
          exact ⟨_, po_some b1, rdo_some b2⟩
      have up : ∃ t, PO X ue t ∧ RdO M X.K W t hb (fun φ st => if hb then evE S hi φ st else some (.ok (.pv .non) st)) := by
        cases ue with
        | none =>
          simp only [Bool.not_eq_true'] at h3
          subst h3
          exact ⟨_, po_none, rdo_none⟩
        | some ue =>
          simp only [Bool.and_eq_true] at h3
          obtain ⟨h4, h5⟩ := h3
          subst h4
          obtain ⟨t, b1, b2⟩ := snd hi g X W _ C h5
          exact ⟨_, po_some b1, rdo_some b2⟩
      obtain ⟨tl, l1, l2⟩ := lp
      obtain ⟨tu, u1, u2⟩ := up
      exact ⟨_, pe_slice sl_W a1 l1 u1, rd_slc a2 l2 u2⟩
    · cases h
  | .rev a, g, X, W, e, C, h => by
    unfold chkE at h
    split at h
    · obtain ⟨ta, a1, a2⟩ := snd a g X W _ C h
      exact ⟨_, pe_revS a1, rd_rev a2⟩
    · cases h
  | .isn neg a, g, X, W, e, C, h => by
    unfold chkE at h
    split at h
    · simp only [Bool.and_eq_true, decide_eq_true_eq] at h
      obtain ⟨h1, h2⟩ := h
      subst h1
      obtain ⟨t, a1, a2⟩ := snd a g X W _ C h2
      exact ⟨_, pe_cmpR (op_isNB neg) a1 pe_non (noSet rfl _), rd_isn a2⟩
    · cases h
  | .isi ty a, g, X, W, e, C, h => by
    unfold chkE at h
    split at h
    · simp only [Bool.and_eq_true, decide_eq_true_eq, Bool.not_eq_true'] at h
      obtain ⟨⟨⟨⟨⟨h1, h2⟩, h3⟩, h4⟩, hst⟩, h5⟩ := h
      subst h1 h2
      obtain ⟨g1, g2⟩ := C.gl h3
      obtain ⟨g3, g4⟩ := C.gl h4
      obtain ⟨t, a1, a2⟩ := snd a g X W _ C h5
      refine ⟨_, pe_callB call_isi g1 C.bis (by decide +kernel) (pa_cons a1 (pa_cons (pe_bltn (v := .ty (tyS ty)) g3 (C.bt ty) (ty_boot ty) rfl (by cases ty <;> decide) g4) pa_nil) (star_each hst)) (by decide) (by decide) (star_each hst) (by rfl), rd_isi a2⟩
    · cases h
  | .bi b es, g, X, W, e, C, h => by
    unfold chkE at h
    split at h
    · rename_i f fp xs pos
      simp only [Bool.and_eq_true, decide_eq_true_eq, Bool.not_eq_true'] at h
      obtain ⟨⟨⟨⟨h1, h2⟩, h3⟩, h4⟩, h5⟩ := h
      subst h1
      obtain ⟨g1, g2⟩ := C.gl h2
      have hs := snds es g X W _ C h4
      obtain ⟨t, a1, a2⟩ := hs.pa
      have st := hs.star
      cases xs with
      | nil =>
        have := hs.len
        cases es <;> simp at this h3
      | cons y ys =>
        simp only [List.all_cons, Bool.and_eq_true, Bool.not_eq_true'] at st
        exact ⟨_, pe_bi C.un (fun hb => C.calm (by simpa [hb] using h5)) (fun hb => by
          cases hh : g.hot with
          | false => exact C.gd hh
          | true => exact C.gdx (by simp [hb, hh] at h5; exact h5.2)) g1 (C.bi b) a1 (star_each st.1) (star_plain st.2), rd_biC a2⟩
    · cases h
  | .bm m r es, g, X, W, e, C, h => by
    unfold chkE at h
    split at h
    · rename_i o a apos xs cpos
      simp only [Bool.and_eq_true, decide_eq_true_eq, Bool.not_eq_true'] at h
      obtain ⟨⟨⟨⟨⟨h1, h2⟩, hl⟩, h4⟩, h5⟩, h6⟩ := h
      subst h1
      exact se_bm C.un hl h4 h5 (snd r g X W _ C h2) (snds es g X W _ C h6)
    · cases h
  | .call f es, g, X, W, e, C, h => by
    unfold chkE at h
    split at h
    · rename_i x p xs pos
      simp only [Bool.and_eq_true, decide_eq_true_eq, Bool.not_eq_true'] at h
      obtain ⟨⟨⟨⟨h1, h2⟩, h3⟩, h4⟩, h5⟩ := h
      obtain ⟨g1, g2⟩ := C.gl h2
      have hs := snds es g X W _ C h4
      obtain ⟨t, a1, a2⟩ := hs.pa
      have st := hs.star
      have len := hs.len
      cases xs with
      | nil => cases es <;> simp at len h3
      | cons y ys =>
        simp only [List.all_cons, Bool.and_eq_true, Bool.not_eq_true'] at st
        cases hh : g.hot with
        | false =>
          obtain ⟨a, fd, ps, F, hm, hk, hb⟩ := C.calls hh f _ _ h1
          exact ⟨_, pe_callG F (C.hr hh) (C.gd hh) g1 hm hk hb (fun σ => L2N.passAt C.takes σ) a1 g2 (star_each st.1) (star_plain st.2), rd_callC rfl a2⟩
        | true =>
          obtain ⟨a, fd, ps, F, hm, hk, hb⟩ := C.callsH f _ _ h1 (by simpa [hh] using h5)
          exact ⟨_, L2H.pe_callH F (C.hrH hh) (C.hotc hh) g1 hm hk hb (fun σ => L2N.passAt C.takes σ) a1 g2 (star_each st.1) (star_plain st.2), rd_callCH rfl a2⟩
    · cases h
  | .lc live elt tg ik src ifs own, g, X, W, e, C, h => by
    unfold chkE at h
    split at h
    · rename_i elx gs scope pos
      split at h
      · rename_i t it is ow hc ho
        split at h
        · rename_i xs hsrc
          simp only [Bool.and_eq_true, Bool.not_eq_true'] at h
          obtain ⟨⟨⟨⟨⟨⟨h1, hown⟩, h2⟩, h3⟩, h4⟩, h5⟩, hhot⟩ := h
          have B := blkOk_by h1
          have hgs : gs = [⟨t, it, is, 0⟩] := by
            unfold comps at hc
            split at hc
            · split at hc
              · rename_i ha
                simp only [Option.some.injEq, Prod.mk.injEq] at hc
                obtain ⟨e1, e2, e3⟩ := hc
                subst e1 e2 e3 ha; rfl
              · cases hc
            · cases hc
          subst hgs
          have how : ∀ (own : List Nat) (ow : List (Str × Nat)), ownOf g.N own = some ow → ow.map (·.2) = own := by
            intro own
            induction own with
            | nil => intro ow e; simp only [ownOf, Option.some.injEq] at e; subst e; rfl
            | cons i r ih =>
              intro ow e
              unfold ownOf at e
              split at e
              · simp only [Option.map_eq_some_iff] at e
                obtain ⟨ow', e1, e2⟩ := e
                subst e2
                simp [ih ow' e1]
              · cases e
          have hown2 := how own ow ho
          obtain ⟨wi, i1, i2, i3⟩ := iter_ok C hsrc (snds src g X W _ C h3) (tg := t)
          have B' : BlkOk X.N X.env.scope scope ow := by rw [C.N, C.sc]; exact B
          have sub : ∀ i ∈ slotsG tg, i ∈ own := fun i hi => by
            have := List.all_eq_true.mp hown i hi
            simpa using this
          obtain ⟨tg', hg1, hg2⟩ := all_PG (Xs := fun b : Blk => b.cx X scope) (K := X.K) (M := M) fun b => tgt (C.blk hhot scope b.s b.H b.A b.cl b.fp) tg t h2
          obtain ⟨te, he1, he2⟩ := all_PE (Xs := fun b : Blk => b.cx X scope) (K := X.K) (W := W0) (M := M) fun b => snd elt (g.blk scope) (b.cx X scope) W0 elx (C.blk hhot scope b.s b.H b.A b.cl b.fp) h5
          have tests : ∃ tt, (∀ b : Blk, PTs (b.cx X scope) is tt) ∧ RdTurn M X.K tt te fun φ st => evIf S ifs φ st fun st => R.bs (evE S elt φ st) fun y st => some (.ok [y] st) := by
            match ifs, h4 with
            | [], h4 =>
              simp only [chkIfs, List.isEmpty_iff] at h4
              subst h4
              exact ⟨tYes, fun b => pts_nil, turn_nil he2⟩
            | c :: cs, h4 =>
              match cs, is, h4 with
              | [], [e'], h4 =>
                simp only [chkIfs] at h4
                obtain ⟨tt, t1, t2⟩ := all_PT (Xs := fun b : Blk => b.cx X scope) (K := X.K) (W := W0) (M := M) fun b => sndT c (g.blk scope) (b.cx X scope) W0 e' (C.blk hhot scope b.s b.H b.A b.cl b.fp) h4
                exact ⟨tt, fun b => pts_one (t1 b), turn_one t2 he2⟩
              | [], [], h4 => simp [chkIfs] at h4
              | [], _ :: _ :: _, h4 => simp [chkIfs] at h4
              | _ :: _, _, h4 => simp [chkIfs] at h4
          obtain ⟨tt, t1, t2⟩ := tests
          refine ⟨_, pe_lc (C.calm hhot) C.nd i1 B' (fun s H A cl fp => hg1 ⟨s, H, A, cl, fp⟩) (fun s H A cl fp => t1 ⟨s, H, A, cl, fp⟩) (fun s H A cl fp => he1 ⟨s, H, A, cl, fp⟩) (fun x => i3 X.env x), ?_⟩
          rw [hown2]
          exact rd_lc i2 hg2 sub t2
        · cases h
      · cases h
    · cases h
  | .frz a, g, X, W, e, C, h => by
    simp only [chkE] at h
    obtain ⟨t, h1, h2⟩ := snd a g X W _ C h
    exact ⟨t, h1, rd_frz h2⟩
  | .fld c a f, g, X, W, e, C, h => by
    unfold chkE at h
    split at h
    · rename_i x n pos
      simp only [Bool.and_eq_true, decide_eq_true_eq] at h
      obtain ⟨⟨⟨h1, h2⟩, h3⟩, h4⟩ := h
      exact se_fld C h1 h2 h3 (snd a g X W _ C h4)
    · cases h
  | .mcall c f a es, g, X, W, e, C, h => by
    unfold chkE at h
    split at h
    · rename_i o n apos xs cpos
      simp only [Bool.and_eq_true, decide_eq_true_eq, Bool.not_eq_true'] at h
      obtain ⟨⟨⟨⟨⟨⟨h1, h2⟩, h3⟩, h4⟩, h5⟩, h6⟩, h7⟩ := h
      exact se_mcall C h1 h2 h3 h4 h5 (snd a g X W _ C h6) (snds es g X W _ C h7)
    · cases h
  | .new c f es, g, X, W, e, C, h => by
    unfold chkE at h
    split at h
    · rename_i x p xs pos
      simp only [Bool.and_eq_true, decide_eq_true_eq, Bool.not_eq_true'] at h
      obtain ⟨⟨⟨h1, h2⟩, h3⟩, h4⟩ := h
      exact se_new C h1 h2 h3 (snds es g X W _ C h4)
    · cases h
  | .xfld i f, g, X, W, e, C, h => by
    unfold chkE at h
    split at h
    · simp only [Bool.and_eq_true, decide_eq_true_eq] at h
      obtain ⟨⟨⟨h1, h2⟩, h3⟩, h4⟩ := h
      exact se_xfld C h1 h2 h3 h4
    · cases h
  | .xisi i c, g, X, W, e, C, h => by
    unfold chkE at h
    split at h
    · simp only [Bool.and_eq_true, decide_eq_true_eq, Option.map_eq_some_iff] at h
      obtain ⟨⟨⟨⟨⟨⟨h1, h2⟩, h3⟩, h4⟩, h5⟩, h6⟩, ei, h7, h8⟩ := h
      subst h1
      exact se_xisi C h3 h4 h5 h2 h6 h7 h8
    · cases h
theorem snds : ∀ (ms : List ME) (g : SC) (X : Cx) (W : WX) (es : List Expr), Cok X g M S W k → chkEs g ms es = true → SEs X M S W ms es
  | [], g, X, W, es, C, h => by
    simp only [chkEs, List.isEmpty_iff] at h
    exact h
  | m :: ms, g, X, W, [], C, h => by simp [chkEs] at h
  | m :: ms, g, X, W, e :: es, C, h => by
    simp only [chkEs, Bool.and_eq_true, Bool.not_eq_true'] at h
    exact ⟨e, es, rfl, h.1.1, snd m g X W e C h.1.2, snds ms g X W es C h.2⟩
theorem sndT : ∀ (m : MT) (g : SC) (X : Cx) (W : WX) (e : Expr), Cok X g M S W k → chkT g m e = true → ST X M S W m e
  | .val m, g, X, W, e, C, h => by
    simp only [chkT, Bool.and_eq_true] at h
    obtain ⟨hp, h⟩ := h
    obtain ⟨t, h1, h2⟩ := snd m g X W _ C h
    exact ⟨_, pt_truth h1 (plain_true hp), fun σ H Q φ F ρ st r hh hs e p => rd_tru1 h2 σ H Q φ F ρ st r hh hs (by simp only [evT] at e; exact e) p⟩
  | .cmp op a b, g, X, W, e, C, h => by
    unfold chkT at h
    split at h
    · simp only [Bool.and_eq_true, decide_eq_true_eq, Bool.not_eq_true'] at h
      obtain ⟨⟨⟨h1, hs⟩, h2⟩, h3⟩ := h
      subst h1
      obtain ⟨ta, a1, a2⟩ := snd a g X W _ C h2
      obtain ⟨tb, b1, b2⟩ := snd b g X W _ C h3
      exact ⟨_, pt_cmpR (op_cmp C.un op) a1 b1 (noSet hs _), fun σ H Q φ F ρ st r hh hs e p => rd_cmpT a2 b2 op σ H Q φ F ρ st r hh hs (by simp only [evT] at e; exact e) p⟩
    · cases h
  | .isn neg a, g, X, W, e, C, h => by
    unfold chkT at h
    split at h
    · simp only [Bool.and_eq_true, decide_eq_true_eq] at h
      obtain ⟨h1, h2⟩ := h
      subst h1
      obtain ⟨ta, a1, a2⟩ := snd a g X W _ C h2
      exact ⟨_, pt_cmpR (op_isNB neg) a1 pe_non (noSet rfl _), fun σ H Q φ F ρ st r hh hs e p => rd_isnT a2 σ H Q φ F ρ st r hh hs (by simp only [evT] at e; exact e) p⟩
    · cases h
  | .boolop c ts, g, X, W, e, C, h => by
    cases e <;> simp only [chkT, Bool.and_eq_true, decide_eq_true_eq, Bool.not_eq_true', Bool.false_eq_true] at h
    obtain ⟨⟨h1, h2⟩, h3⟩ := h
    subst h1
    obtain ⟨t, h4, h5⟩ := boolopT_ok c _ (by intro z; subst z; simp at h2) (sndTs ts g X W _ C h3)
    exact ⟨t, h4.pt, fun σ H Q φ F ρ st r hh hs e p => h5 σ H Q φ F ρ st r hh hs (by simpa only [evT] using e) p⟩
  | .not t, g, X, W, e, C, h => by
    unfold chkT at h
    split at h
    · obtain ⟨t', h1, h2⟩ := sndT t g X W _ C h
      exact ⟨_, pt_not h1, fun σ H Q φ F ρ st r hh hs e p => rd_notT h2 σ H Q φ F ρ st r hh hs (by simpa only [evT] using e) p⟩
    · cases h
theorem sndTs : ∀ (ms : List MT) (g : SC) (X : Cx) (W : WX) (es : List Expr), Cok X g M S W k → chkTs g ms es = true → STs X M S W ms es
  | [], g, X, W, es, C, h => by
    simp only [chkTs, List.isEmpty_iff] at h
    exact h
  | m :: ms, g, X, W, [], C, h => by simp [chkTs] at h
  | m :: ms, g, X, W, e :: es, C, h => by
    simp only [chkTs, Bool.and_eq_true] at h
    exact ⟨e, es, rfl, sndT m g X W e C h.1, sndTs ms g X W es C h.2⟩
end
end
end Z
end

section
/-! ZQ: statements. -/
namespace Z
open PySem PySem.Spec PyProof.Rows L2
/-! ### the look -/
def bkd (g : SC) : ScopeKind := if g.sc.kind.isAnnotationScope then .function else g.sc.kind
/-- does `name = [..]` store within the comprehension -/
def swC (g : SC) (v : Expr) (t : Str) (tp : Pos) : Bool := match v with
  | .ListComp _ _ s _ | .SetComp _ _ s _ | .DictComp _ _ _ s _ => bkd g == .function && g.sc.names.lookup t == some .local && tp.line == v.pos.line && !(s.names.any fun (n, k) => n == t && (k == .local || k == .cell))
  | _ => false
def swNames (g : SC) (ts : List Expr) : List Str := ts.filterMap fun
    | .Name id pos => if g.sc.names.lookup id == some .local && pos.line == (ts.head?.map (·.pos.line)).getD 0 then some id else none
    | _ => none
def swp (g : SC) (ts vs : List Expr) : Option (Option (List Str)) :=
  if !(ts.length == 2 || ts.length == 3) || vs.length != ts.length || bkd g != .function then some none else
  if vs.any isStar then some none else
  if (swNames g ts).length != ts.length || (swNames g ts).eraseDups.length != (swNames g ts).length then some none else
  if vs.all (foldedForSure 8) then some none else
  if vs.all (constantsAlone 8) then none else some (some (swNames g ts))
theorem swp_ok {g : SC} {ts vs : List Expr} {env : Env} {k k' : Nat} {p p' : Pos} {r : Option (List Str)} (hs : env.scope = g.sc) (h : swp g ts vs = some r) : swappedStores [.Tuple ts k p] (.Tuple vs k' p') env = pure r := by
  have hb : env.blockKind = bkd g := by unfold Env.blockKind bkd; rw [hs]
  have hk : ∀ x, env.kindOf x = g.sc.names.lookup x := fun x => by unfold Env.kindOf; rw [hs]
  have hv : isStar = (fun e : Expr => match e with | .Starred .. => true | _ => false) := by funext e; cases e <;> rfl
  unfold swappedStores
  unfold swp at h
  rw [hv] at h
  simp only [pure_bind, hb, hk]
  by_cases h1 : (!(ts.length == 2 || ts.length == 3) || vs.length != ts.length || bkd g != .function) = true
  · rw [if_pos h1] at h
    refine (if_pos h1).trans ?_
    cases h; rfl
  rw [if_neg h1] at h
  refine (if_neg h1).trans ?_
  split at h
  · rename_i h2
    refine (if_pos h2).trans ?_
    cases h; rfl
  rename_i h2
  refine (if_neg h2).trans ?_
  by_cases h3 : ((swNames g ts).length != ts.length || (swNames g ts).eraseDups.length != (swNames g ts).length) = true
  · rw [if_pos h3] at h
    refine (if_pos h3).trans ?_
    cases h; rfl
  rw [if_neg h3] at h
  refine (if_neg h3).trans ?_
  by_cases h4 : vs.all (foldedForSure 8) = true
  · rw [if_pos h4] at h
    refine (if_pos h4).trans ?_
    cases h; rfl
  rw [if_neg h4] at h
  refine (if_neg h4).trans ?_
  by_cases h5 : vs.all (constantsAlone 8) = true
  · rw [if_pos h5] at h
    cases h
  rw [if_neg h5] at h
  refine (if_neg h5).trans ?_
  cases h; rfl
/-- which way an assignment goes -/
inductive Way where
  | plain | comp | par (ns : List Str)
def wayOf (g : SC) (t v : Expr) : Option Way := match t with
  | .Name x p => if swC g v x p then some .comp else some .plain
  | .Tuple ts _ _ => (match v with
    | .Tuple vs _ _ => (match swp g ts vs with
      | some none => some .plain
      | some (some ns) => some (.par ns)
      | none => none)
    | _ => some .plain)
  | .Subscript _ i _ => if isSlice i then none else some .plain
  | _ => none
def loc1 (g : SC) (x : Str) : Bool := decide (g.sc.names.lookup x = some .local)
/-- a, b = x, y by names -/
def parOk (g : SC) (ns : List Str) : MG → ME → Expr → Expr → Bool
  | .tp [.nm i, .nm j], .tup [_, _], .Tuple [.Name x _, .Name y _] _ _, .Tuple [a, b] _ _ => decide (i ≠ j) && loc1 g x && loc1 g y && decide (ns = [x, y])
  | .tp [.nm i, .nm j, .nm l], .tup [_, _, _], .Tuple [.Name x _, .Name y _, .Name z _] _ _, .Tuple [a, b, c] _ _ => decide (i ≠ j) && decide (i ≠ l) && decide (j ≠ l) && loc1 g x && loc1 g y && loc1 g z && decide (ns = [x, y, z])
  | _, _, _, _ => false
/-- what is looked at within an except suite -/
def SC.suite (g : SC) (i : Nat) : SC := { g with hot := true, exn := some i }
def isLc : ME → Expr → Bool
  | .lc .., .ListComp .. => true
  | _, _ => false
def wayOk (g : SC) (m : MG) (e : ME) (t v : Expr) : Bool := match wayOf g t v with
  | some .plain => true
  | some .comp => isLc e v
  | some (.par ns) => !g.hot && parOk g ns m e t v
  | none => false
mutual
def chkS (g : SC) : MS → Stmt → Bool
  | .pass, s => (match s with
    | .Pass _ => true
    | .Expr (.Constant (.str _) _ _) _ => true
    | _ => false)
  | .ex e, s => (match s with
    | .Expr x _ => !isComp x && chkE g e x
    | _ => false)
  | .asg m e, s => (match s with
    | .Assign [t] v _ => chkG g m t && chkE g e v && wayOk g m e t v
    | _ => false)
  | .asgI a i e, s => (match s with
    | .Assign [.Subscript o x _] v _ => !isSlice x && chkE g a o && chkE g i x && chkE g e v
    | _ => false)
  | .aug i op e, s => (match s with
    | .AugAssign (.Name x _) o v _ => decide (o = opB op) && decide (g.N[i]? = some x) && loc? g x && chkE g e v
    | _ => false)
  | .augI a i op e, s => (match s with
    | .AugAssign (.Subscript o x _) p v _ => decide (p = opB op) && !isSlice x && chkE g a o && chkE g i x && chkE g e v
    | _ => false)
  | .iff c a b, s => (match s with
    | .If c' a' b' _ => chkT g c c' && chkSs g a a' && chkSs g b b'
    | _ => false)
  | .whl c a, s => (match s with
    | .While c' a' [] _ => chkT g c c' && chkSs g a a'
    | _ => false)
  | .for_ tg ik src a, s => (match s with
    | .For t it a' [] _ => (match srcOf g ik it with
      | some xs => chkG g tg t && chkEs g src xs && chkSs g a a' && !g.hot
      | none => false)
    | _ => false)
  | .ret e, s => (match s with
    | .Return (some x) _ => chkE g e x
    | _ => false)
  | .retN, s => (match s with
    | .Return none _ => true
    | _ => false)
  | .fset c a f e, s => (match s with
    | .Assign [.Attribute o n _] v _ => decide (g.T.fnames[f]? = some n) && (match g.T.cls[c]? with
      | some ci => ci.fields.contains f
      | none => false) && chkE g a o && chkE g e v
    | _ => false)
  | .faug c a f op e, s => (match s with
    | .AugAssign (.Attribute o n _) p v _ => decide (p = opB op) && decide (g.T.fnames[f]? = some n) && (match g.T.cls[c]? with
      | some ci => ci.fields.contains f
      | none => false) && chkE g a o && chkE g e v
    | _ => false)
  | .raise c es, s => (match s with
    | .Raise (some (.Call (.Name x _) xs [] _)) none _ => (match g.T.errs[c]? with
      | some ei => decide (ei.name = x) && gl? g x && chkEs g es xs && decide (xs.length = ei.np) && !g.hot
      | none => false)
    | _ => false)
  | .tryE body c slot suite, s => (match s with
    | .Try bs [.ExceptHandler (some (.Name x _)) (some n) (b₀ :: ss) _] [] [] _ => (match slot, g.T.errs[c]? with
      | some i, some ei => decide (ei.name = x) && gl? g x && decide (g.N[i]? = some n) && decide (g.sc.names.lookup n = some .local) && !g.hot && g.top && chkSs g body bs && chkSs (g.suite i) suite (b₀ :: ss)
      | _, _ => false)
    | _ => false)
  | .brk, s => (match s with
    | .Break _ => true
    | _ => false)
  | .cnt, s => (match s with
    | .Continue _ => true
    | _ => false)
def chkSs (g : SC) : List MS → List Stmt → Bool
  | [], ss => ss.isEmpty
  | m :: ms, ss => (match ss with
    | s :: ss => chkS g m s && chkSs g ms ss
    | [] => false)
end
section
variable {X : Cx} {g : SC} {M : Nm} {S : Sem} {W : WX} {k : Nat}
def SS (X : Cx) (M : Nm) (S : Sem) (W : WX) (m : MS) (s : Stmt) : Prop := ∃ t, PS X s t ∧ RdS M X.K W t (exS S m)
def SSs (X : Cx) (M : Nm) (S : Sem) (W : WX) (ms : List MS) (ss : List Stmt) : Prop := ∃ t, PSs X ss t ∧ RdS M X.K W t (exSs S ms)
/-! ### readings -/
theorem rd_seq {t u : TS} {f : Slots → Store → Option FR} {ms : List MS} (h : RdS M X.K W t f) (h' : RdS M X.K W u (exSs S ms)) :
    RdS M X.K W (tSeq t u) fun φ st => match f φ st with
      | some (.nx φ st) => exSs S ms φ st
      | r => r := by
  intro D σ H φ F ρ st r hh hs e p
  show t { D with nx := u D } σ H
  dsimp only at e
  cases q : f φ st with
  | none => rw [q] at e; cases e
  | some a =>
    rw [q] at e
    refine h _ σ H φ F ρ st a hh hs q ?_
    cases a with
    | nx φ1 st1 => exact fun F1 ρ1 H1 σ1 g1 h1 s1 => h' D σ1 H1 φ1 F1 ρ1 st1 r h1 s1 e (p.g g1)
    | rt v st1 => cases e; exact p
    | bk φ1 st1 => cases e; exact p
    | ct φ1 st1 => cases e; exact p
    | ex x φ1 st1 => cases e; exact p
theorem rd_drop {t : TE} {f : Slots → Store → Option ER} (h : RdE M X.K W t f) : RdS M X.K W (tDrop t) fun φ st => R.bf φ (f φ st) fun _ st => some (.nx φ st) := by
  intro D σ H φ F ρ st r hh hs e p
  refine h.bindS (U := fun _ H1 => D.nx σ H1) hh hs e p fun x st1 F1 ρ1 H1 v e1 g1 h1 r1 p1 => ?_
  simp only [Option.some.injEq] at e1
  subst e1
  exact p1 F1 ρ1 H1 σ (G.refl _ _ _) h1 (hs.g g1)
theorem rd_ret {t : TE} {f : Slots → Store → Option ER} (h : RdE M X.K W t f) : RdS M X.K W (tRet t) fun φ st => R.bf φ (f φ st) fun v st => some (.rt v st) := by
  intro D σ H φ F ρ st r hh hs e p
  refine h.bindS (U := D.rt) hh hs e p fun x st1 F1 ρ1 H1 v e1 g1 h1 r1 p1 => ?_
  simp only [Option.some.injEq] at e1
  subst e1
  exact p1 F1 ρ1 H1 v (G.refl _ _ _) h1 r1
theorem rd_asg {te : TE} {tg : TG} {f : Slots → Store → Option ER} {m : MG} (h : RdE M X.K W te f) (hg : RdG M X.K tg m) : RdS M X.K W (tAsg te tg) fun φ st => R.bf φ (f φ st) fun v st => (asgG m v φ).map fun φ => .nx φ st := by
  intro D σ H φ F ρ st r hh hs e p
  refine h.bindS (U := fun x H1 => tg x σ H1 D.nx) hh hs e p fun x st1 F1 ρ1 H1 v e1 g1 h1 r1 p1 => ?_
  simp only [Option.map_eq_some_iff] at e1
  obtain ⟨φ1, e2, e3⟩ := e1
  subst e3
  exact hg x v φ φ1 σ F1 ρ1 H1 st1 _ h1 (hs.g g1) r1 e2 fun σ1 s1 _ => p1 F1 ρ1 H1 σ1 (G.refl _ _ _) h1 s1
theorem rd_if {tc : TT} {t u : TS} {f : Slots → Store → Option ET} {a b : Slots → Store → Option FR} (hc : RdT M X.K W tc f) (ha : RdS M X.K W t a) (hb : RdS M X.K W u b) :
    RdS M X.K W (tIfS tc t u) fun φ st => T.bf φ (f φ st) fun d st => if d then a φ st else b φ st := by
  intro D σ H φ F ρ st r hh hs e p
  refine hc.bindS (U := fun b H1 => if b = true then t D σ H1 else u D σ H1) hh hs e p fun d st1 F1 ρ1 H1 e1 g1 h1 p1 => ?_
  cases d with
  | true => exact ha D σ H1 φ F1 ρ1 st1 r h1 (hs.g g1) e1 p1
  | false => exact hb D σ H1 φ F1 ρ1 st1 r h1 (hs.g g1) e1 p1
theorem rd_while {tc : TT} {tb : TS} {f : Slots → Store → Option ET} {a : Slots → Store → Option FR} {n : Nat} (hc : RdT M X.K W tc f) (hb : RdS M X.K W tb a) : RdS M X.K W (tWhile tc tb) (whLoop f a n) := by
  intro D σ H φ F ρ st r hh hs e p
  obtain ⟨Inv, hInv⟩ : ∃ Inv : Nat → L2.St → Hp → Prop, Inv = fun m σ' H' => ∃ φ F2 ρ2 st2, G F ρ H F2 ρ2 H' ∧ HR' M X.K F2 ρ2 H' st2 ∧ SL M X.K F2 ρ2 σ' φ ∧ whLoop f a m φ st2 = some r := ⟨_, rfl⟩
  refine ⟨Inv, ⟨n, by rw [hInv]; exact ⟨φ, F, ρ, st, G.refl _ _ _, hh, hs, e⟩⟩, ?_⟩
  intro m σ1 H1 hI
  rw [hInv] at hI
  obtain ⟨φ1, F1, ρ1, st1, g1, h1, s1, e1⟩ := hI
  cases m with
  | zero => cases e1
  | succ m =>
    unfold whLoop at e1
    refine hc.bindS (U := fun b H2 => if b = true then ∃ N : L2.St → Hp → Prop, (∀ σ' H', N σ' H' → ∃ m', m' < m + 1 ∧ Inv m' σ' H') ∧ tb { D with nx := N, ct := N, bk := D.nx } σ1 H2 else D.nx σ1 H2) h1 s1 e1 (p.g g1) fun b st2 F2 ρ2 H2 e2 g2 h2 p2 => ?_
    cases b with
    | false =>
      rw [if_neg Bool.false_ne_true]
      simp only [Bool.false_eq_true, if_false, Option.some.injEq] at e2
      subst e2
      exact p2 F2 ρ2 H2 σ1 (G.refl _ _ _) h2 (s1.g g2)
    | true =>
      rw [if_pos rfl]
      refine ⟨Inv m, fun σ' H' q => ⟨m, Nat.lt_succ_self m, q⟩, ?_⟩
      simp only [if_true] at e2
      cases q : a φ1 st2 with
      | none => rw [q] at e2; cases e2
      | some r2 =>
        rw [q] at e2
        refine hb _ σ1 H2 φ1 F2 ρ2 st2 r2 h2 (s1.g g2) q ?_
        cases r2 with
        | nx φ3 st3 => exact fun F3 ρ3 H3 σ3 g3 h3 s3 => by rw [hInv]; exact ⟨φ3, F3, ρ3, st3, (g1.trans g2).trans g3, h3, s3, e2⟩
        | ct φ3 st3 => exact fun F3 ρ3 H3 σ3 g3 h3 s3 => by rw [hInv]; exact ⟨φ3, F3, ρ3, st3, (g1.trans g2).trans g3, h3, s3, e2⟩
        | bk φ3 st3 => cases e2; exact fun F3 ρ3 H3 σ3 g3 h3 s3 => p2 F3 ρ3 H3 σ3 g3 h3 s3
        | rt v st3 => cases e2; exact p2
        | ex x φ3 st3 => cases e2; exact p2
theorem rd_for {wi : TI} {tg : TG} {tb : TS} {m : MG} {ik : IK} {src : List ME} {body : List MS} (hi : RdI M X.K W S wi ik src) (hg : RdG M X.K tg m) (hb : RdS M X.K W tb (exSs S body)) : RdS M X.K W (tFor wi tg tb) (exS S (.for_ m ik src body)) := by
  intro D σ H φ F ρ st r hh hs e post
  obtain ⟨hok, hex⟩ := hi σ H _ φ F ρ st hh hs
  simp only [exS] at e
  cases q : evEs S src φ st with
  | none => rw [q] at e; cases e
  | some rs =>
    rw [q] at e
    cases rs with
    | ex x st1 =>
      have e' : r = .ex x φ st1 := (Option.some.inj e).symm
      subst e'
      exact hex x st1 q fun F1 ρ1 H1 cls d g1 h1 x1 => post F1 ρ1 H1 σ cls d g1 h1 (hs.g g1) x1
    | ok vs st1 =>
      simp only [Rs.bf] at e
      cases qu : unpv vs with
      | none => simp [qu] at e
      | some ps =>
        simp only [qu] at e
        cases qi : items ik ps with
        | none => simp [qi] at e
        | some xs =>
          simp only [qi] at e
          refine hok vs st1 ps xs q qu qi fun F1 ρ1 H1 J g1 h1 ito => ?_
          obtain ⟨step, hstep⟩ : ∃ step : PV → Slots → Store → Option FR, step = fun x φ st => match asgG m (.pv x) φ with
            | some φ => exSs S body φ st
            | none => none := ⟨_, rfl⟩
          have e : forLoop step xs φ st1 = some r := by rw [hstep]; exact e
          obtain ⟨Inv, hInv⟩ : ∃ Inv : Nat → L2.St → Hp → Prop, Inv = fun i σ' H' => i ≤ xs.length ∧ ∃ φ F2 ρ2 st2, G F1 ρ1 H1 F2 ρ2 H' ∧ HR' M X.K F2 ρ2 H' st2 ∧ SL M X.K F2 ρ2 σ' φ ∧ forLoop step (xs.drop i) φ st2 = some r := ⟨_, rfl⟩
          refine ⟨fun i n σ' H' => n = xs.length - i ∧ Inv i σ' H', ⟨xs.length, by simp, by rw [hInv]; exact ⟨Nat.zero_le _, φ, F1, ρ1, st1, G.refl _ _ _, h1, hs.g g1, by simpa using e⟩⟩, ?_⟩
          rintro i n σ2 H2 ⟨rfl, hI⟩
          rw [hInv] at hI
          obtain ⟨hi, φ2, F2, ρ2, st2, g2, h2, s2, e2⟩ := hI
          by_cases hlt : i < xs.length
          · refine .inr ?_
            have hx : xs[i]? = some xs[i] := List.getElem?_eq_getElem hlt
            obtain ⟨hgo, hy⟩ := ito.at_ i xs[i] F2 H2 hx g2.sub h2.sub
            rw [List.drop_eq_getElem_cons hlt] at e2
            unfold forLoop at e2
            refine ⟨hgo, Inv (i + 1), fun σ' H' hN => ⟨xs.length - (i + 1), by omega, rfl, hN⟩, fun x H' hyl => ?_⟩
            have item : ∃ F3 , G F2 ρ2 H2 F3 ρ2 H' ∧ HR' M X.K F3 ρ2 H' st2 ∧ RP X.K F3 xs[i] x := by
              rcases hy x H' hyl with ⟨e1, e2⟩ | ⟨T, o, e0, e1, e2⟩
              · subst e1
                exact ⟨F2, G.refl _ _ _, h2, e2⟩
              · subst e1
                obtain ⟨g3, h3⟩ := h2.new e0 o
                exact ⟨_, g3, h3, e2⟩
            obtain ⟨F3, g3, h3, rx⟩ := item
            cases qs : step xs[i] φ2 st2 with
            | none => rw [qs] at e2; cases e2
            | some r3 =>
              rw [qs] at e2
              rw [hstep] at qs
              cases qa : asgG m (.pv xs[i]) φ2 with
              | none => simp [qa] at qs
              | some φ3 =>
                simp only [qa] at qs
                refine hg (.pv xs[i]) x φ2 φ3 σ2 F3 ρ2 H' st2 _ h3 (s2.g g3) (by simp only [RL]; exact rx) qa fun σ3 s3 _ => ?_
                refine hb _ σ3 H' φ3 F3 ρ2 st2 r3 h3 s3 qs ?_
                have gg := (g2.trans g3)
                cases r3 with
                | nx φ4 st4 => exact fun F4 ρ4 H4 σ4 g4 h4 s4 => by rw [hInv]; exact ⟨hlt, φ4, F4, ρ4, st4, gg.trans g4, h4, s4, e2⟩
                | ct φ4 st4 => exact fun F4 ρ4 H4 σ4 g4 h4 s4 => by rw [hInv]; exact ⟨hlt, φ4, F4, ρ4, st4, gg.trans g4, h4, s4, e2⟩
                | bk φ4 st4 => cases e2; exact fun F4 ρ4 H4 σ4 g4 h4 s4 => post F4 ρ4 H4 σ4 ((g1.trans gg).trans g4) h4 s4
                | rt v st4 => cases e2; exact (post.g g1).g gg
                | ex x φ4 st4 => cases e2; exact (post.g g1).g gg
          · have hi' : i = xs.length := by omega
            subst hi'
            refine .inl ⟨ito.stop F2 H2 g2.sub h2.sub, ?_⟩
            rw [List.drop_length] at e2
            simp only [forLoop, Option.some.injEq] at e2
            subst e2
            exact post F2 ρ2 H2 σ2 (g1.trans g2) h2 s2
/-! ### a op= b -/
def rAugZ (op : BO) : R2 := fun x y H Q => rAug op x y H Q ∨ (op = .add ∧ rExt2 x y H Q)
theorem op_augZ (op : BO) : OpR X (inplaceOp (opB op)) (rAugZ op) := by
  intro pins s σ H x y v u Q I rx ry h
  rcases h with h | ⟨e, h⟩
  · exact op_aug op pins s σ H x y v u Q I rx ry h
  · subst e
    exact iop_ext pins s σ H x y v u Q I rx ry h
theorem rd_augP {F H : Hp} {ρ : List Addr} {st : Store} {σ : L2.St} {op : BO} {p q z : PV} {v w : V} {Q : VK} (hh : HR' M X.K F ρ H st) (hp : PK X.K F H p v) (hq : PK X.K F H q w) (e : doAug op p q = some z) (post : PostE M X.K W σ F ρ H Q (.ok (.pv z) st)) : rAug op v w H Q := by
  cases op <;> cases p <;> simp only [doAug, doBin, reduceCtorEq] at e <;> cases q <;> simp only [doBin, Option.some.injEq, reduceCtorEq] at e
  case add.int.int i j => subst e; exact .inl ⟨i, j, hp.int, hq.int, post.tree hh (by simp only [RP])⟩
  case add.str.str x y =>
    split at e
    · rename_i hl
      simp only [Option.some.injEq] at e
      subst e
      refine .inr ⟨mkS x, mkS y, hp.str.1, hq.str.1, by rw [mkS_len, mkS_len, line_eq]; exact hl, post.tree hh ?_⟩
      simp only [RP]
      exact ⟨by rw [mkS_append], okS_append hp.str.2 hq.str.2⟩
    · cases e
  case sub.int.int i j => subst e; exact ⟨i, j, hp.int, hq.int, post.tree hh (by simp only [RP])⟩
  case mul.int.int i j =>
    split at e
    · rename_i hl
      simp only [Option.some.injEq] at e
      subst e
      exact ⟨i, j, hp.int, hq.int, mulOk_ok hl, post.tree hh (by simp only [RP])⟩
    · cases e
  case fdiv.int.int i j =>
    split at e
    · rename_i hl
      simp only [Option.some.injEq] at e
      subst e
      exact ⟨i, j, hp.int, hq.int, divOk_ok hl, post.tree hh (by simp only [RP])⟩
    · cases e
  case mod.int.int i j =>
    split at e
    · rename_i hl
      simp only [Option.some.injEq] at e
      subst e
      exact ⟨i, j, hp.int, hq.int, hl, post.tree hh (by simp only [RP])⟩
    · cases e
theorem sq_okQ {F H : Hp} {ρ : List Addr} {st : Store} {y : LV} {w : V} {ys : List LV} (hh : HR' M X.K F ρ H st) (r : RL X.K F ρ y w) (e : sq st y = some ys) : ∃ b ws, w = .ref b ∧ H b = some (.lst ws) ∧ RLs X.K F ρ ys ws := by
  cases y with
  | tup _ => simp [sq] at e
  | exn _ => simp [sq] at e
  | pv p =>
    cases p <;> simp only [sq, Option.some.injEq, reduceCtorEq] at e
    subst e
    simp only [RL, RP] at r
    obtain ⟨b, ws, e1, e2, e3⟩ := r
    exact ⟨b, ws, e1, hh.sub _ _ e2, RLs_pv.mpr e3⟩
  | ref n =>
    simp only [RL] at r
    obtain ⟨b, e1, e2⟩ := r
    obtain ⟨c, ec, hc⟩ := hh.at e2
    simp only [sq, ec] at e
    cases c <;> simp only [Option.some.injEq, reduceCtorEq] at e
    subst e
    obtain ⟨ws, h1, h2, _⟩ := hc
    exact ⟨b, ws, e1, h1, h2⟩
theorem rd_augOp (op : BO) : RdV2 M X.K W (rAugZ op) (augOp op) := by
  intro σ H Q F ρ st x y v w res hh rx ry e p
  cases x with
  | tup _ => simp [augOp] at e
  | exn _ => simp [augOp] at e
  | pv a =>
    simp only [augOp] at e
    split at e
    · rename_i q hq
      cases ez : doAug op a q with
      | none => simp [ez, okP] at e
      | some z =>
        simp only [ez, okP, Option.some.injEq] at e
        subst e
        exact .inl (rd_augP hh (peek_ok hh rx (by simp only [peek])) (peek_ok hh ry hq) ez p)
    · cases e
  | ref n =>
    simp only [augOp] at e
    split at e
    · rename_i xs ys e1 e2
      split at e
      · rename_i hl
        simp only [Option.some.injEq] at e
        subst e
        simp only [RL] at rx
        obtain ⟨a, ea, en⟩ := rx
        obtain ⟨c, ec, hc⟩ := hh.at en
        rw [e1] at ec
        cases ec
        obtain ⟨vs, h1, h2, h3, _⟩ := hc
        obtain ⟨b, ws, eb, hb, rb⟩ := sq_okQ hh ry e2
        refine .inr ⟨rfl, a, b, vs, ws, ea, eb, h1, hb, by rw [← h2.length, ← rb.length, line_eq]; exact hl, ?_⟩
        obtain ⟨g2, hh2⟩ := hh.write en (h3 rfl) (o := .lst (vs ++ ws)) (c := .lst true (xs ++ ys)) ⟨_, upd_same, h2.append rb, fun _ => h3 rfl, fun z => Bool.noConfusion z⟩
        exact p _ _ _ _ g2 hh2 (by simp only [RL]; exact ⟨a, rfl, en⟩)
      · cases e
    · cases e
theorem rd_augS {te : TE} {f : Slots → Store → Option ER} {op : BO} {i : Nat} (h : RdE M X.K W te f) : RdS M X.K W (tAug i te (rAugZ op)) fun φ st => match φ[i]? with
    | some (some x) => R.bf φ (f φ st) fun y st => R.bf φ (augOp op x y st) fun z st => some (.nx (φ.set i (some z)) st)
    | _ => none := by
  intro D σ H φ F ρ st r hh hs e p
  dsimp only at e
  split at e
  · rename_i x hx
    obtain ⟨v, hv, rv⟩ := hs.2 i x hx
    refine ⟨v, hv, ?_⟩
    refine h.bindS (U := fun y H1 => rAugZ op v y H1 fun z H2 => D.nx (σ.set i (some z)) H2) hh hs e p fun y st1 F1 ρ1 H1 w e1 g1 h1 r1 p1 => ?_
    cases q : augOp op x y st1 with
    | none => rw [q] at e1; cases e1
    | some a =>
      rw [q] at e1
      have hx2 : ∀ z, x ≠ .exn z := fun z hz => by rw [hz] at q; simp [augOp] at q
      refine rd_augOp op σ H1 _ F1 ρ1 st1 x y v w a h1 (RL.mono g1.sub g1.pre _ _ (rv.rl hx2)) r1 q (W := W) ?_
      cases a with
      | ok z st2 =>
        cases e1
        exact fun F2 ρ2 H2 u g2 h2 r2 => p1 F2 ρ2 H2 _ g2 h2 ((hs.g (g1.trans g2)).set i r2)
      | ex x st2 =>
        cases e1
        exact fun F2 ρ2 H2 cls d g2 h2 x2 => p1 F2 ρ2 H2 σ cls d g2 h2 (hs.g (g1.trans g2)) x2
  · cases e
/-! ### a[i] = x -/
def rSetD : V → V → V → Hp → (Hp → Prop) → Prop := fun o i v H Q => ∃ a H', o = .ref a ∧ DPut H a i v H' ∧ Q H'
def rSetZ : V → V → V → Hp → (Hp → Prop) → Prop := fun o i v H Q => rSetL o i v H Q ∨ rSetD o i v H Q
theorem set_Z (hu : room2 X) : PSet X rSetZ := by
  intro pins s σ H o i v ov iv u Q I ro ri rv h
  rcases h with h | ⟨a, H', e, g, q⟩
  · exact set_list pins s σ H o i v ov iv u Q I ro ri rv h
  · subst e
    obtain rfl : ov = Value.ref a := ro
    exact d_setItem (by have h1 : X.A.units + 600 < cLine := hu; omega) I g ri rv fun s4 I4 => ⟨H', I4, q⟩
section
variable {K : PySem.W.Frag} {F : Hp} {ρ : List Addr}
theorem any_k {k : Ky} : ∀ {kvs : List (Ky × LV)} {ks : List (Key × V)}, RLk K F ρ kvs ks → (ks.any fun kv => decide (kv.1 = kyS k)) = has k kvs
  | [], ks, h => by simp only [RLk] at h; subst h; rfl
  | (j, p) :: r, ks, h => by
    simp only [RLk] at h
    obtain ⟨v, s, e1, e2, e3, e4⟩ := h
    subst e1
    by_cases hj : j = k
    · subst hj; simp [has, look]
    · have hn : ¬ kyS j = kyS k := fun e => hj (kyS_inj e)
      have ih := any_k (k := k) e4
      simp only [has, look, if_neg hj, List.any_cons, hn, decide_false, Bool.false_or] at ih ⊢
      exact ih
theorem any_t {k : List Ky} : ∀ {kvs : List (List Ky × LV)} {ks : List (List Key × V)}, RLt K F ρ kvs ks → (ks.any fun kv => decide (kv.1 = k.map kyS)) = has k kvs
  | [], ks, h => by simp only [RLt] at h; subst h; rfl
  | (j, p) :: r, ks, h => by
    simp only [RLt] at h
    obtain ⟨v, s, e1, e2, e3, e4⟩ := h
    subst e1
    by_cases hj : j = k
    · subst hj; simp [has, look]
    · have hn : ¬ j.map kyS = k.map kyS := fun e => hj (kySs_inj e)
      have ih := any_t (k := k) e4
      simp only [has, look, if_neg hj, List.any_cons, hn, decide_false, Bool.false_or] at ih ⊢
      exact ih
theorem map_k {k : Ky} {x : LV} {v : V} (rx : RL K F ρ x v) : ∀ {kvs : List (Ky × LV)} {ks : List (Key × V)}, RLk K F ρ kvs ks → RLk K F ρ (kvs.map fun kv => if kv.1 = k then (kv.1, x) else kv) (ks.map fun kv => if kv.1 = kyS k then (kv.1, v) else kv)
  | [], ks, h => by simp only [RLk] at h; subst h; simp [RLk]
  | (j, p) :: r, ks, h => by
    simp only [RLk] at h
    obtain ⟨w, s, e1, e2, e3, e4⟩ := h
    subst e1
    have ih := map_k (k := k) rx e4
    by_cases hj : j = k
    · subst hj
      simp only [List.map_cons, if_true, RLk]
      exact ⟨v, _, rfl, e2, rx, ih⟩
    · have hn : ¬ kyS j = kyS k := fun e => hj (kyS_inj e)
      simp only [List.map_cons, if_neg hj, if_neg hn, RLk]
      exact ⟨w, _, rfl, e2, e3, ih⟩
theorem map_t {k : List Ky} {x : LV} {v : V} (rx : RL K F ρ x v) : ∀ {kvs : List (List Ky × LV)} {ks : List (List Key × V)}, RLt K F ρ kvs ks → RLt K F ρ (kvs.map fun kv => if kv.1 = k then (kv.1, x) else kv) (ks.map fun kv => if kv.1 = k.map kyS then (kv.1, v) else kv)
  | [], ks, h => by simp only [RLt] at h; subst h; simp [RLt]
  | (j, p) :: r, ks, h => by
    simp only [RLt] at h
    obtain ⟨w, s, e1, e2, e3, e4⟩ := h
    subst e1
    have ih := map_t (k := k) rx e4
    by_cases hj : j = k
    · subst hj
      simp only [List.map_cons, if_true, RLt]
      exact ⟨v, _, rfl, e2, rx, ih⟩
    · have hn : ¬ j.map kyS = k.map kyS := fun e => hj (kySs_inj e)
      simp only [List.map_cons, if_neg hj, if_neg hn, RLt]
      exact ⟨w, _, rfl, e2, e3, ih⟩
theorem snoc_k {k : Ky} {x : LV} {v : V} (hk : okK k = true) (rx : RL K F ρ x v) : ∀ {kvs : List (Ky × LV)} {ks : List (Key × V)}, RLk K F ρ kvs ks → RLk K F ρ (kvs ++ [(k, x)]) (ks ++ [(kyS k, v)])
  | [], ks, h => by simp only [RLk] at h; subst h; simp only [List.nil_append, RLk]; exact ⟨v, [], rfl, hk, rx, rfl⟩
  | (j, p) :: r, ks, h => by
    simp only [RLk] at h
    obtain ⟨w, s, e1, e2, e3, e4⟩ := h
    subst e1
    simp only [List.cons_append, RLk]
    exact ⟨w, _, rfl, e2, e3, snoc_k hk rx e4⟩
theorem snoc_t {k : List Ky} {x : LV} {v : V} (hk : k.all okK = true) (rx : RL K F ρ x v) : ∀ {kvs : List (List Ky × LV)} {ks : List (List Key × V)}, RLt K F ρ kvs ks → RLt K F ρ (kvs ++ [(k, x)]) (ks ++ [(k.map kyS, v)])
  | [], ks, h => by simp only [RLt] at h; subst h; simp only [List.nil_append, RLt]; exact ⟨v, [], rfl, hk, rx, rfl⟩
  | (j, p) :: r, ks, h => by
    simp only [RLt] at h
    obtain ⟨w, s, e1, e2, e3, e4⟩ := h
    subst e1
    simp only [List.cons_append, RLt]
    exact ⟨w, _, rfl, e2, e3, snoc_t hk rx e4⟩
theorem put_k {k : Ky} {x : LV} {v : V} {kvs : List (Ky × LV)} {ks : List (Key × V)} (hk : okK k = true) (rx : RL K F ρ x v) (h : RLk K F ρ kvs ks) : RLk K F ρ (putD k x kvs) (putK ks (kyS k) v) := by
  unfold putD putK
  rw [any_k h]
  split
  · exact map_k rx h
  · exact snoc_k hk rx h
theorem put_t {k : List Ky} {x : LV} {v : V} {kvs : List (List Ky × LV)} {ks : List (List Key × V)} (hk : k.all okK = true) (rx : RL K F ρ x v) (h : RLt K F ρ kvs ks) : RLt K F ρ (putD k x kvs) (putK ks (k.map kyS) v) := by
  unfold putD putK
  rw [any_t h]
  split
  · exact map_t rx h
  · exact snoc_t hk rx h
theorem len_k : ∀ {kvs : List (Ky × LV)} {ks : List (Key × V)}, RLk K F ρ kvs ks → kvs.length = ks.length
  | [], ks, h => by simp only [RLk] at h; subst h; rfl
  | (j, p) :: r, ks, h => by
    simp only [RLk] at h
    obtain ⟨w, s, e1, e2, e3, e4⟩ := h
    subst e1
    simp [len_k e4]
theorem len_t : ∀ {kvs : List (List Ky × LV)} {ks : List (List Key × V)}, RLt K F ρ kvs ks → kvs.length = ks.length
  | [], ks, h => by simp only [RLt] at h; subst h; rfl
  | (j, p) :: r, ks, h => by
    simp only [RLt] at h
    obtain ⟨w, s, e1, e2, e3, e4⟩ := h
    subst e1
    simp [len_t e4]
end
theorem rd_setI {F H : Hp} {ρ : List Addr} {st st' : Store} {x y z : LV} {v w u : V} {Q : Hp → Prop} (hh : HR' M X.K F ρ H st) (rx : RL X.K F ρ x v) (ry : RL X.K F ρ y w) (rz : RL X.K F ρ z u) (e : setI x y z st = some st')
    (q : ∀ H', G F ρ H F ρ H' → HR' M X.K F ρ H' st' → Q H') : rSetZ v w u H Q := by
  cases x with
  | pv _ => simp [setI] at e
  | tup _ => simp [setI] at e
  | exn _ => simp [setI] at e
  | ref n =>
    simp only [setI] at e
    simp only [RL] at rx
    obtain ⟨a, ea, en⟩ := rx
    obtain ⟨c, ec, hc⟩ := hh.at en
    split at e
    · rename_i xs i e1
      rw [e1] at ec
      cases ec
      split at e
      · rename_i j hj
        simp only [Option.some.injEq] at e
        subst e
        obtain ⟨vs, h1, h2, h3, _⟩ := hc
        simp only [RL, RP] at ry
        refine .inl ⟨a, vs, i, j, ea, ry, h1, by rw [← h2.length]; exact hj, ?_⟩
        obtain ⟨g2, hh2⟩ := hh.write en (h3 rfl) (o := .lst (vs.set j u)) (c := .lst true (xs.set j z)) ⟨_, upd_same, h2.set rz j, fun _ => h3 rfl, fun z => Bool.noConfusion z⟩
        exact q _ g2 hh2
      · cases e
    · rename_i kvs k e1
      rw [e1] at ec
      cases ec
      split at e
      · rename_i ky hk
        split at e
        · rename_i hl
          simp only [Option.some.injEq] at e
          subst e
          obtain ⟨ks, h1, h2, h3, _⟩ := hc
          have pk := peek_ok hh ry (p := k) (by simp only [peek])
          obtain ⟨k1, k2⟩ := kV_of hk pk
          refine .inr ⟨a, _, ea, by rw [k1]; exact DPut.k h1 (by rw [← len_k h2, line_eq]; exact hl), ?_⟩
          obtain ⟨g2, hh2⟩ := hh.write en (h3 rfl) (o := .dK (putK ks (kyS ky) u)) (c := .dk true (putD ky z kvs)) ⟨_, upd_same, put_k k2 rz h2, fun _ => h3 rfl, fun z => Bool.noConfusion z⟩
          exact q _ g2 hh2
        · cases e
      · cases e
    · rename_i kvs k e1
      rw [e1] at ec
      cases ec
      split at e
      · rename_i ky hk
        split at e
        · rename_i hl
          simp only [Option.some.injEq] at e
          subst e
          obtain ⟨ks, h1, h2, h3, _⟩ := hc
          have pk := peek_ok hh ry (p := k) (by simp only [peek])
          obtain ⟨b, k1, k2⟩ := kT_of hh.sub hk pk
          have k3 := kT_ok hk pk
          refine .inr ⟨a, _, ea, by rw [k1]; exact DPut.t h1 k2 (by rw [← len_t h2, line_eq]; exact hl), ?_⟩
          obtain ⟨g2, hh2⟩ := hh.write en (h3 rfl) (o := .dT (putK ks (ky.map kyS) u)) (c := .dt true (putD ky z kvs)) ⟨_, upd_same, put_t k3 rz h2, fun _ => h3 rfl, fun z => Bool.noConfusion z⟩
          exact q _ g2 hh2
        · cases e
      · cases e
    · cases e
end
end Z
end

section
/-! ZQa: raise. -/
namespace Z
open PySem PySem.Spec PyProof.Rows L2
section
variable {X : Cx} {g : SC} {M : Nm} {S : Sem} {W : WX} {k : Nat}
/-- C() behind raise, C without an own __init__ -/
theorem pmk0 {x : Str} {C : Addr} {p pos : Pos} (q : PySem.W.excIn X.K C He.veBase "ValueError.__new__" = true) (gC : X.mg x = some (.ref C)) (kC : PySem.W.keepIn X.K (.ref C) = true) (r : Raises X (.ref C)) (hg : Gl X x) (hdb : (x == ("__debug__" : Str)) = false) :
    L2N.PMk X (.Call (.Name x p) [] [] pos) (fun _ H Q => Q (.ref C) none H) := by
  intro pins s σ H Q I h
  refine wpAny_Call_Name_kw (ld_glob I hg gC ?_ hdb)
  refine PySem.W.callWith_K0 I.kIn kC ?_
  show wpAny _ _ (call (.ref C) []) _ _ _
  obtain ⟨bm, N, nm, qn, bs, hdct, sn, sub, ab, col, dd, k0, k1, k2, k3, k5, mN, hC, hN, hni, T⟩ := exc_obj I.kIn q
  exact wpAny_call_exc_subT PySem.F.excBase_ValueError T hC hN hni (fun h' er hm => L2N.mk_of I hm r h (I.hok.gone hm.new)) (Nat.zero_le _)
theorem ext_ok {K : PySem.W.Frag} {F : Hp} {ps : List PV} {ys : List V} (r : RPs K F ps ys) : ∀ {fl : List (Nat × Nat)} {acc fs : List (Nat × PV)} {va : List V}, RPs K F (acc.map (·.2)) va → extP ps acc fl = some fs →
    ∃ vs, extF ys ((acc.map fun f => M.fnm f.1).zip va) (fl.map fun q => (M.fnm q.1, q.2)) = some ((fs.map fun f => M.fnm f.1).zip vs) ∧ RPs K F (fs.map (·.2)) vs
  | [], acc, fs, va, ra, e => by
    simp only [extP, Option.some.injEq] at e
    subst e
    exact ⟨va, rfl, ra⟩
  | (f, i) :: fl, acc, fs, va, ra, e => by
    unfold extP at e
    split at e
    · rename_i p hp
      obtain ⟨v, h1, h2⟩ := r.get hp
      have ra' : RPs K F (((f, p) :: acc).map (·.2)) (v :: va) := by
        simp only [List.map_cons, RPs]
        exact ⟨v, va, rfl, h2, ra⟩
      obtain ⟨vs, h3, h4⟩ := ext_ok r ra' e
      refine ⟨vs, ?_, h4⟩
      simp only [List.map_cons, extF, h1]
      simpa only [List.map_cons, List.zip_cons_cons] using h3
    · cases e
theorem no_fields {K : PySem.W.Frag} {F H : Hp} {c : Nat} : RX M K F H ⟨c, []⟩ (.ref (M.ead c)) none := ⟨rfl, .inl ⟨rfl, rfl⟩⟩
theorem ss_raise (C : Cok X g M S W k) (hot : g.hot = false) {c : Nat} {ei : EI} {x : Str} {p pos rpos : Pos} {es : List ME} {xs : List Expr} (he : g.T.errs[c]? = some ei) (hn : ei.name = x) (hg : gl? g x = true) (hs : SEs X M S W es xs) (hl : xs.length = ei.np) :
    SS X M S W (.raise c es) (.Raise (some (.Call (.Name x p) xs [] pos)) none rpos) := by
  have E := C.errs c ei he
  obtain ⟨g1, g2⟩ := C.gl hg
  have adr := E.adr
  rw [hn] at adr
  rcases E.make with ⟨fl0, np0, xin, kp, rs⟩ | ⟨np1, np2, T, fI, fd, ps, j, hj, iC, tI, FI, bd⟩
  · cases xs with
    | nil =>
      have hes : es = [] := by
        have := hs.len
        exact List.length_eq_zero_iff.mp this
      subst hes
      refine ⟨_, L2N.ps_raise (C.calm hot) C.takes (pmk0 xin adr kp rs g1 g2), ?_⟩
      intro D σ H φ F ρ st r hh hs2 e post
      simp only [exS, evEs, Rs.bf, E.xin, unpv, List.length_nil, np0, if_true, fl0, extP, Option.map_some, Option.some.injEq] at e
      subst e
      exact post F ρ H σ _ _ (G.refl _ _ _) hh hs2 no_fields
    | cons y ys =>
      rw [np0] at hl
      simp at hl
  · cases xs with
    | nil =>
      rw [← hl] at np1
      simp at np1
    | cons y ys =>
      obtain ⟨ta, a1, a2⟩ := hs.pa
      have st := hs.star
      simp only [List.all_cons, Bool.and_eq_true, Bool.not_eq_true'] at st
      have room : Room (j + 1) X.A := (C.hr hot).mono hj
      refine ⟨_, L2N.ps_raise (C.calm hot) C.takes (pmkX T iC tI FI room bd (L2N.passes_call takesN fun _ _ _ _ z => z.elim) g1 adr a1 g2 (star_each st.1) (star_plain st.2)), ?_⟩
      intro D σ H φ F ρ st r hh hs2 e post
      simp only [exS] at e
      refine a2.bindS (U := fun vs H1 => vs.length ≤ 1000 ∧ ∀ a, H1 a = none → spI (M.ead c) (ei.fl.map fun q => (M.fnm q.1, q.2)) ei.np (.ref a :: (vs ++ [])) (upd H1 a (exo a (M.ead c) none)) (fun v H2 => v = .non ∧ ∃ (d : Addr) (fs : List (Str × V)), H2 a = some (exo a (M.ead c) (some d)) ∧ H2 d = some (exd d fs) ∧ H1 d = none ∧ W (.ref (M.ead c)) (some d) σ (upd (del H2 a) d (.xd fs))) (fun _ _ _ => False)) hh hs2 e post fun vs st1 F1 ρ1 H1 us e1 g1 h1 r1 p1 => ?_
      rw [E.xin] at e1
      split at e1
      · rename_i n fl ps heq hun
        cases heq
        split at e1
        · rename_i hlen
          simp only [Option.map_eq_some_iff] at e1
          obtain ⟨fs, e2, e3⟩ := e1
          subst e3
          rw [unpv_eq hun] at r1
          have rp := RLs_pv.mp r1
          obtain ⟨vs2, x1, x2⟩ := ext_ok (M := M) rp (acc := []) (va := []) (by simp only [List.map_nil, RPs]) e2
          refine ⟨by rw [← rp.length, hlen]; omega, fun a na => ⟨a, us, _, by rw [List.append_nil], by rw [← rp.length]; exact hlen, upd_same, x1, fun d H2 nd ne ea ed keep => ⟨rfl, d, _, ea, ed, by rw [upd_ne ne] at nd; exact nd, ?_⟩⟩⟩
          rw [upd_ne ne] at nd
          have eH : upd (del H2 a) d (.xd ((fs.map fun f => M.fnm f.1).zip vs2)) = upd H1 d (.xd ((fs.map fun f => M.fnm f.1).zip vs2)) := by
            funext b
            by_cases hb : b = d
            · rw [hb, upd_same, upd_same]
            · rw [upd_ne hb, upd_ne hb]
              by_cases hb2 : b = a
              · rw [hb2, del_same, na]
              · rw [del_ne hb2, keep b hb hb2, upd_ne hb2]
          rw [eH]
          obtain ⟨g2, h2⟩ := h1.new nd (.xd ((fs.map fun f => M.fnm f.1).zip vs2))
          refine p1 _ _ _ σ _ _ g2 h2 ((hs2.g g1).g g2) ⟨rfl, .inr ⟨d, vs2, rfl, upd_same, RPs.mono (sub_upd (h1.fresh nd)) _ _ x2⟩⟩
        · cases e1
      · cases e1
end
end Z
end

section
/-! ZQb: try. -/
namespace Z
open PySem PySem.Spec PyProof.Rows L2
theorem all_PSs {ι : Type} {Xs : ι → Cx} {ss : List Stmt} {M : Nm} {K : PySem.W.Frag} {W : WX} {f : Slots → Store → Option FR} (h : ∀ i, ∃ t, PSs (Xs i) ss t ∧ RdS M K W t f) : ∃ t, (∀ i, PSs (Xs i) ss t) ∧ RdS M K W t f := by
  refine ⟨fun D σ H => ∀ i, Classical.choose (h i) D σ H, fun i => ⟨fun pins s σ H D I q => (Classical.choose_spec (h i)).1.run pins s σ H D I (q i)⟩, fun D σ H φ F ρ st r hh hs e p i => (Classical.choose_spec (h i)).2 D σ H φ F ρ st r hh hs e p⟩
section
variable {X : Cx} {M : Nm} {S : Sem} {W : WX}
abbrev inM (M : Nm) (i : Nat) (a : Addr) (cls : Value) (d : Option Addr) : Nm := { M with cur := some (i, a, cls, d) }
theorem sl_in {K : PySem.W.Frag} {F : Hp} {ρ : List Addr} {σ : L2.St} {φ : Slots} {i : Nat} {a : Addr} {cls : Value} {d : Option Addr} {e : Ex} (hc : M.cur = none) (h : SL M K F ρ σ φ) (r : RF M K F e cls d) : SL (inM M i a cls d) K F ρ (σ.set i (some (.ref a))) (φ.set i (some (.exn e))) := by
  refine ⟨by simp [h.1], fun j x hx => ?_⟩
  by_cases hj : i = j
  · subst hj
    by_cases hl : i < φ.length
    · rw [List.getElem?_set_self hl] at hx
      cases hx
      exact ⟨_, List.getElem?_set_self (by rw [← h.1]; exact hl), a, cls, d, rfl, rfl, r⟩
    · rw [List.getElem?_eq_none (by simpa using Nat.le_of_not_lt hl)] at hx
      cases hx
  · rw [List.getElem?_set_ne hj] at hx ⊢
    obtain ⟨v, h1, h2⟩ := h.2 j x hx
    refine ⟨v, h1, .of (h2.rl fun z hz => ?_)⟩
    subst hz
    obtain ⟨a', c', d', h3, _⟩ := h2
    rw [hc] at h3; cases h3
theorem sl_out {K : PySem.W.Frag} {F : Hp} {ρ : List Addr} {σ : L2.St} {φ : Slots} {i : Nat} {a : Addr} {cls : Value} {d : Option Addr} (h : SL (inM M i a cls d) K F ρ σ φ) : SL M K F ρ (σ.set i none) (φ.set i none) := by
  refine ⟨by simp [h.1], fun j x hx => ?_⟩
  by_cases hj : i = j
  · subst hj
    by_cases hl : i < φ.length
    · rw [List.getElem?_set_self hl] at hx; cases hx
    · rw [List.getElem?_eq_none (by simpa using Nat.le_of_not_lt hl)] at hx; cases hx
  · rw [List.getElem?_set_ne hj] at hx ⊢
    obtain ⟨v, h1, h2⟩ := h.2 j x hx
    refine ⟨v, h1, .of (h2.rl fun z hz => ?_)⟩
    subst hz
    obtain ⟨a', c', d', h3, _⟩ := h2
    cases h3
    exact hj rfl
theorem rd_tryAs {c i : Nat} {body suite : List MS} {tb : WX → TS} {ts : Addr → Value → Option Addr → TS} (hcur : M.cur = none) (hb : ∀ W', RdS M X.K W' (tb W') (exSs S body)) (hsu : ∀ a cls d, RdS (inM M i a cls d) X.K W0 (ts a cls d) (exSs S suite))
    (hsub : ∀ (e : Ex), S.xin e.cls ≠ none → PySem.W.exmOne X.K (.ref (M.ead e.cls)) (.ref (M.ead c)) = some (S.sub e.cls c)) : RdS M X.K W (fun D σ H => tb (L2.wAs X.K (.ref (M.ead c)) i ts W D) D σ H) (exS S (.tryE body c (some i) suite)) := by
  intro D σ H φ F ρ st r hh hs e post
  simp only [exS] at e
  cases q : exSs S body φ st with
  | none => rw [q] at e; cases e
  | some rb =>
    rw [q] at e
    refine hb _ D σ H φ F ρ st rb hh hs q ?_
    cases rb with
    | nx φ1 st1 => cases e; exact post
    | rt v st1 => cases e; exact post
    | bk φ1 st1 => cases e; exact post
    | ct φ1 st1 => cases e; exact post
    | ex x φ1 st1 =>
      intro F1 ρ1 H1 σ1 cls d g1 h1 s1 x1
      simp only at e
      by_cases hn : (S.xin x.cls).isNone = true
      · rw [if_pos hn] at e; cases e
      rw [if_neg hn] at e
      have hx : S.xin x.cls ≠ none := by
        intro z
        rw [z] at hn
        exact hn rfl
      have hcls : cls = .ref (M.ead x.cls) := x1.1
      refine ⟨S.sub x.cls c, by rw [hcls]; exact hsub x hx, fun hy a na => ?_, fun hno => ?_⟩
      · rw [hy] at e
        simp only [if_true] at e
        cases qs : exSs S suite (φ1.set i (some (.exn x))) st1 with
        | none => rw [qs] at e; cases e
        | some rs =>
          rw [qs] at e
          refine hsu a cls d _ _ H1 _ F1 ρ1 st1 rs h1 (sl_in hcur s1 x1) qs ?_
          have p1 := post.g g1
          cases rs with
          | nx φ2 st2 =>
            cases e
            exact fun F2 ρ2 H2 σ2 g2 h2 s2 => p1 F2 ρ2 H2 _ g2 h2 (sl_out s2)
          | bk φ2 st2 =>
            cases e
            exact fun F2 ρ2 H2 σ2 g2 h2 s2 => p1 F2 ρ2 H2 _ g2 h2 (sl_out s2)
          | ct φ2 st2 =>
            cases e
            exact fun F2 ρ2 H2 σ2 g2 h2 s2 => p1 F2 ρ2 H2 _ g2 h2 (sl_out s2)
          | rt v st2 =>
            cases e
            exact fun F2 ρ2 H2 u g2 h2 r2 => p1 F2 ρ2 H2 u g2 h2 r2
          | ex y φ2 st2 => cases e
      · rw [hno] at e
        simp only [Bool.false_eq_true, if_false, Option.some.injEq] at e
        subst e
        exact post F1 ρ1 H1 σ1 cls d g1 h1 s1 x1
end
end Z
end

section
/-! ZQc: contexts of a try. -/
namespace Z
open PySem PySem.Spec PyProof.Rows L2
section
variable {X : Cx} {g : SC} {M : Nm} {S : Sem} {W : WX} {k : Nat}
theorem Cok.tr (C : Cok X g M S W k) (hot : g.hot = false) {W' : WX} {pn : List (Addr × Obj)} {xe : Value → Shared → Prop} (tk : L2N.Takes (X.tr pn xe) W') (pa : PassesOwn (model X.prog X.w) X.A X.env xe) : Cok (X.tr pn xe) g M S W' k where
  N := C.N
  sc := C.sc
  fn := C.fn
  nd := C.nd
  calm := C.calm
  hr := C.hr
  hrH := fun h => by rw [hot] at h; cases h
  hotc := fun h => by rw [hot] at h; cases h
  un := C.un
  gd := C.gd
  gdx := C.gdx
  fr := C.fr
  glb := C.glb
  callsH := C.callsH
  calls := C.calls
  errs := fun c ei h => ⟨(C.errs c ei h).adr, (C.errs c ei h).xf, (C.errs c ei h).ec, (C.errs c ei h).no, (C.errs c ei h).sub, (C.errs c ei h).xin, (C.errs c ei h).make⟩
  cls := fun c ci h => ⟨(C.cls c ci h).adr, (C.cls c ci h).cl, (C.cls c ci h).no, (C.cls c ci h).meth, (C.cls c ci h).make⟩
  nf := C.nf
  xerr := C.xerr
  finj := C.finj
  fname := C.fname
  cur := by
    have h1 := C.cur
    rw [C.cold hot] at h1 ⊢
    exact h1
  cold := C.cold
  stk := C.stk
  frm := C.frm
  takes := tk
  pass := pa
theorem Cok.suite (C : Cok X g M S W k) (hot : g.hot = false) {i : Nat} {a : Addr} {oe : Obj} {cls : Value} {d : Option Addr} {pn : List (Addr × Obj)} (hz : L2N.Zn cls d oe) (hf : ∃ vs, oe.data = .fields vs) : Cok (X.suite a ((a, oe) :: pn)) (g.suite i) (inM M i a cls d) S W0 k where
  N := C.N
  sc := C.sc
  fn := C.fn
  nd := C.nd
  calm := fun h => by cases h
  hr := fun h => by cases h
  hrH := fun _ => L2H.roomH_mark (C.hr hot) _
  hotc := fun _ => by
    obtain ⟨vs, hv⟩ := hf
    exact ⟨(a, oe), ⟨rfl, vs, hv, hz.2.2 vs hv⟩, List.mem_cons_self⟩
  un := C.un
  gd := fun h => by cases h
  gdx := fun _ => C.gd hot
  fr := C.fr
  glb := C.glb
  callsH := C.callsH
  calls := fun h => by cases h
  errs := fun c ei h => ⟨(C.errs c ei h).adr, (C.errs c ei h).xf, (C.errs c ei h).ec, (C.errs c ei h).no, (C.errs c ei h).sub, (C.errs c ei h).xin, (C.errs c ei h).make⟩
  cls := fun c ci h => ⟨(C.cls c ci h).adr, (C.cls c ci h).cl, (C.cls c ci h).no, (C.cls c ci h).meth, (C.cls c ci h).make⟩
  nf := C.nf
  xerr := C.xerr
  finj := C.finj
  fname := C.fname
  cur := ⟨X, a, oe, cls, d, pn, rfl, rfl, hz.zc, hf⟩
  cold := fun h => by cases h
  stk := C.stk
  frm := C.frm
  takes := takesN
  pass := PassesOwn.never
/-- try: body, except x as n: suite -/
theorem ss_tryAs (C : Cok X g M S W k) (hot : g.hot = false) (top : g.top = true) {c i : Nat} {ei : EI} {x n : Str} {np hp pos : Pos} {body suite : List MS} {bs : List Stmt} {b₀ : Stmt} {ss : List Stmt} (he : g.T.errs[c]? = some ei) (hn : ei.name = x) (hg : gl? g x = true) (hi : g.N[i]? = some n) (hl : g.sc.names.lookup n = some .local)
    (hb : ∀ (X' : Cx) (W' : WX), Cok X' g M S W' k → SSs X' M S W' body bs) (hsu : ∀ (X' : Cx) (M' : Nm), Cok X' (g.suite i) M' S W0 k → SSs X' M' S W0 suite (b₀ :: ss)) :
    SS X M S W (.tryE body c (some i) suite) (.Try bs [.ExceptHandler (some (.Name x np)) (some n) (b₀ :: ss) hp] [] [] pos) := by
  have E := C.errs c ei he
  obtain ⟨g1, g2⟩ := C.gl hg
  have adr := E.adr
  rw [hn] at adr
  have hcur : M.cur = none := by
    have h1 := C.cur
    rw [C.cold hot] at h1
    exact h1
  have hbody : ∀ W' : WX, ∃ t, (∀ j : { q : List (Addr × Obj) × (Value → Shared → Prop) // L2N.Takes (X.tr q.1 q.2) W' ∧ PassesOwn (model X.prog X.w) X.A X.env q.2 }, PSs (X.tr j.1.1 j.1.2) bs t) ∧ RdS M X.K W' t (exSs S body) := fun W' =>
    all_PSs (Xs := fun j : { q : List (Addr × Obj) × (Value → Shared → Prop) // L2N.Takes (X.tr q.1 q.2) W' ∧ PassesOwn (model X.prog X.w) X.A X.env q.2 } => X.tr j.1.1 j.1.2) (K := X.K) fun j => hb _ W' (C.tr hot j.2.1 j.2.2)
  have hsuite : ∀ (a : Addr) (cls : Value) (d : Option Addr), ∃ t, (∀ j : { q : Obj × List (Addr × Obj) // L2N.Zn cls d q.1 ∧ ∃ vs, q.1.data = .fields vs }, PSs (X.suite a ((a, j.1.1) :: j.1.2)) (b₀ :: ss) t) ∧ RdS (inM M i a cls d) X.K W0 t (exSs S suite) := fun a cls d =>
    all_PSs (Xs := fun j : { q : Obj × List (Addr × Obj) // L2N.Zn cls d q.1 ∧ ∃ vs, q.1.data = .fields vs } => X.suite a ((a, j.1.1) :: j.1.2)) (K := X.K) fun j => hsu _ _ (C.suite hot j.2.1 j.2.2)
  refine ⟨_, L2N.ps_try_as (c := .ref (M.ead c)) (tb := fun W' => Classical.choose (hbody W')) (ts := fun a cls d => Classical.choose (hsuite a cls d)) (C.stk top) (C.frm top) C.nd (by rw [C.N]; exact hi) (by show X.env.scope.names.lookup n = _; rw [C.sc]; exact hl) ⟨g1, g2, .inl adr⟩ C.takes
    (fun W' pn xe tk pa => (Classical.choose_spec (hbody W')).1 ⟨(pn, xe), tk, pa⟩) (fun a oe cls d pn hz hf => (Classical.choose_spec (hsuite a cls d)).1 ⟨(oe, pn), hz, hf⟩), ?_⟩
  refine rd_tryAs hcur (fun W' => (Classical.choose_spec (hbody W')).2) (fun a cls d => (Classical.choose_spec (hsuite a cls d)).2) fun e hx => ?_
  obtain ⟨ei2, h2⟩ := C.xerr e.cls hx
  exact ((C.errs _ _ h2).sub c ei he).1
end
end Z
end

section
/-! ZQd: fields stored. -/
namespace Z
open PySem PySem.Spec PyProof.Rows L2
section
variable {X : Cx} {g : SC} {M : Nm} {S : Sem} {W : WX} {k : Nat}
theorem sw_attr {v o : Expr} {f : Str} {p : Pos} {env : Env} {l : Nat} : swapsWith v (some (.Attribute o f p)) l env = pure false := by
  unfold swapsWith
  cases v <;> rfl
theorem rd_setFl (C : Cok X g M S W k) {F H : Hp} {ρ : List Addr} {st st' : Store} {n f : Nat} {a dx : Addr} {c : Nat} {fs : List (Nat × LV)} {vs : List V} {y : LV} {v : V} (hh : HR' M X.K F ρ H st) (er : ρ[n]? = some a) (es : st[n]? = some (.ins c fs))
    (hr : RLs X.K F ρ (fs.map (·.2)) vs) (hF : F a = none) (ry : RL X.K F ρ y v) (e : setFl (.ref n) f y st = some st') :
    ((fs.map fun q => M.fnm q.1).zip vs).length < 1000 ∧ G F ρ H F ρ (upd H a (.ins (M.cad c) dx (putF (M.fnm f) v ((fs.map fun q => M.fnm q.1).zip vs)))) ∧ HR' M X.K F ρ (upd H a (.ins (M.cad c) dx (putF (M.fnm f) v ((fs.map fun q => M.fnm q.1).zip vs)))) st' := by
  simp only [setFl, es] at e
  split at e
  · rename_i hl
    simp only [Option.some.injEq] at e
    subst e
    obtain ⟨vs', h1, h2⟩ := put_zip (fnm := M.fnm) C.finj (f := f) ry hr
    refine ⟨by rw [List.length_zip, List.length_map]; omega, ?_⟩
    rw [h1]
    exact hh.write er hF ⟨dx, vs', upd_same, h2, hF⟩
  · cases e
theorem ss_fset (C : Cok X g M S W k) {c f : Nat} {a e : ME} {o v : Expr} {n : Str} {p pos : Pos} (h2 : g.T.fnames[f]? = some n) (h3 : (match g.T.cls[c]? with
      | some ci => ci.fields.contains f
      | none => false) = true) (ha : SE X M S W a o) (he : SE X M S W e v) : SS X M S W (.fset c a f e) (.Assign [.Attribute o n p] v pos) := by
  obtain ⟨ta, a1, a2⟩ := ha
  obtain ⟨te, e1, e2⟩ := he
  refine ⟨_, ps_fld a1 e1 sw_attr, ?_⟩
  split at h3
  · rename_i ci hci
    have CC := C.cls c ci hci
    have hn : M.fnm f = n := C.fname f n h2
    have hno : NoAttr X.K (M.cad c) n := by rw [← hn]; exact CC.no f (by simpa using h3)
    intro D σ H φ F ρ st r hh hs e p
    simp only [exS] at e
    refine e2.bindS (U := fun y H1 => ta σ H1 fun x H2 => ∃ a C dx fs, x = .ref a ∧ H2 a = some (.ins C dx fs) ∧ Cls X.K C ∧ NoAttr X.K C n ∧ fs.length < 1000 ∧ D.nx σ (upd H2 a (.ins C dx (putF n y fs)))) hh hs e p fun y st1 F1 ρ1 H1 v e1 g1 h1 r1 p1 => ?_
    refine a2.bindS (U := fun x H2 => ∃ a C dx fs, x = .ref a ∧ H2 a = some (.ins C dx fs) ∧ Cls X.K C ∧ NoAttr X.K C n ∧ fs.length < 1000 ∧ D.nx σ (upd H2 a (.ins C dx (putF n v fs)))) h1 (hs.g g1) e1 p1 fun x st2 F2 ρ2 H2 u e2 g2 h2 r2 p2 => ?_
    split at e2
    · rename_i hi
      obtain ⟨m, b, fs, dx, vs, ex, ev, er, es, hf, hH, hr, hF⟩ := ins_at h2 r2 hi
      subst ex ev
      simp only [Option.map_eq_some_iff] at e2
      obtain ⟨st3, e3, e4⟩ := e2
      subst e4
      obtain ⟨hl, g3, h3⟩ := rd_setFl C (dx := dx) h2 er es hr hF (RL.mono g2.sub g2.pre _ _ r1) e3
      refine ⟨b, _, dx, _, rfl, hH, CC.cl, hno, hl, ?_⟩
      rw [← hn]
      exact p2 F2 ρ2 _ σ g3 h3 (((hs.g g1).g g2).g g3)
    · cases e2
  · cases h3
theorem ss_faug (C : Cok X g M S W k) {c f : Nat} {op : BO} {a e : ME} {o v : Expr} {n : Str} {p pos : Pos} (h2 : g.T.fnames[f]? = some n) (h3 : (match g.T.cls[c]? with
      | some ci => ci.fields.contains f
      | none => false) = true) (ha : SE X M S W a o) (he : SE X M S W e v) : SS X M S W (.faug c a f op e) (.AugAssign (.Attribute o n p) (opB op) v pos) := by
  obtain ⟨ta, a1, a2⟩ := ha
  obtain ⟨te, e1, e2⟩ := he
  refine ⟨_, ps_fldaug (rd := rAugZ op) a1 e1 (fun pins s σ H x y u v Q I rx ry h => op_augZ op pins s σ H x y u v Q I rx ry h), ?_⟩
  split at h3
  · rename_i ci hci
    have CC := C.cls c ci hci
    have hn : M.fnm f = n := C.fname f n h2
    have hno : NoAttr X.K (M.cad c) n := by rw [← hn]; exact CC.no f (by simpa using h3)
    intro D σ H φ F ρ st r hh hs e p
    simp only [exS] at e
    refine a2.bindS (U := fun x H1 => ∃ a C dx fs v, x = .ref a ∧ H1 a = some (.ins C dx fs) ∧ Cls X.K C ∧ NoAttr X.K C n ∧ fs.lookup n = some v ∧
      te σ H1 fun y H2 => rAugZ op v y H2 fun z H3 => ∃ dx' fs', H3 a = some (.ins C dx' fs') ∧ fs'.length < 1000 ∧ D.nx σ (upd H3 a (.ins C dx' (putF n z fs')))) hh hs e p fun x st1 F1 ρ1 H1 u e1 g1 h1 r1 p1 => ?_
    split at e1
    · rename_i hi
      obtain ⟨m, b, fs, dx, vs, ex, ev, er, es, hf, hH, hr, hF⟩ := ins_at h1 r1 hi
      subst ex ev
      simp only [getF, es] at e1
      split at e1
      · rename_i w hw
        · skip
          obtain ⟨u, l1, l2⟩ := look_zip C.finj hr hw
          rw [hn] at l1
          refine ⟨b, _, dx, _, u, rfl, hH, CC.cl, hno, l1, ?_⟩
          refine e2.bindS (U := fun y H2 => rAugZ op u y H2 fun z H3 => ∃ dx' fs', H3 b = some (.ins (M.cad c) dx' fs') ∧ fs'.length < 1000 ∧ D.nx σ (upd H3 b (.ins (M.cad c) dx' (putF n z fs')))) h1 (hs.g g1) e1 p1 fun y st2 F2 ρ2 H2 u2 e2 g2 h2 r2 p2 => ?_
          cases q4 : augOp op w y st2 with
          | none => rw [q4] at e2; cases e2
          | some a5 =>
            rw [q4] at e2
            refine rd_augOp op σ H2 _ F2 ρ2 st2 w y u u2 a5 h2 (RL.mono g2.sub g2.pre _ _ l2) r2 q4 (W := W) ?_
            cases a5 with
            | ex z st5 =>
              cases e2
              exact fun F5 ρ5 H5 cls d g5 h5 x5 => p2 F5 ρ5 H5 σ cls d g5 h5 (hs.g ((g1.trans g2).trans g5)) x5
            | ok z st5 =>
              intro F5 ρ5 H5 u5 g5 h5 r5
              simp only [R.bf] at e2
              split at e2
              · rename_i hi2
                simp only [Option.map_eq_some_iff] at e2
                obtain ⟨st6, e6, e7⟩ := e2
                subst e7
                have r1' := RL.mono (K := X.K) (g2.trans g5).sub (g2.trans g5).pre (.ref m) (.ref b) r1
                obtain ⟨m', b', fs', dx', vs', ex, ev, er', es', hf', hH', hr', hF'⟩ := ins_at h5 r1' hi2
                cases ex
                cases ev
                obtain ⟨hl, g6, h6⟩ := rd_setFl C (dx := dx') h5 er' es' hr' hF' r5 e6
                refine ⟨dx', _, hH', hl, ?_⟩
                rw [← hn]
                exact p2 F5 ρ5 _ σ (g5.trans g6) h6 (hs.g (((g1.trans g2).trans g5).trans g6))
              · cases e2
      · cases e1
    · cases e1
  · cases h3
end
end Z
end

section
/-! ZR: the theorem for statements. -/
namespace Z
open PySem PySem.Spec PyProof.Rows L2
section
variable {X : Cx} {g : SC} {M : Nm} {S : Sem} {W : WX} {k : Nat}
theorem swC_ok {g : SC} {v : Expr} {x : Str} {p : Pos} {env : Env} {l : Nat} (hs : env.scope = g.sc) : swapsWith v (some (.Name x p)) l env = pure (swC g v x p) := by
  have hb : env.blockKind = bkd g := by unfold Env.blockKind bkd; rw [hs]
  have hk : ∀ x, env.kindOf x = g.sc.names.lookup x := fun x => by unfold Env.kindOf; rw [hs]
  unfold swapsWith swC
  cases v <;> simp only [pure_bind, hb, hk] <;> rfl
theorem sole {t v : Expr} {l : Nat} {env : Env} : swapsWithSole [t] v l env = swapsWith v (some t) l env := by
  unfold swapsWithSole; rfl
theorem sw_sub {v o i : Expr} {p : Pos} {env : Env} {l : Nat} : swapsWith v (some (.Subscript o i p)) l env = pure false := by
  unfold swapsWith
  cases v <;> rfl
theorem sw_tup {v : Expr} {ts : List Expr} {k : Nat} {p : Pos} {env : Env} {l : Nat} : swapsWith v (some (.Tuple ts k p)) l env = pure false := by
  unfold swapsWith
  cases v <;> rfl
theorem st_name {v : Expr} {x : Str} {p : Pos} {env : Env} : swappedStores [.Name x p] v env = pure none := by
  unfold swappedStores; rfl
theorem st_sub {v o i : Expr} {p : Pos} {env : Env} : swappedStores [.Subscript o i p] v env = pure none := by
  unfold swappedStores; rfl
theorem asg_sub {o i : Expr} {pos : Pos} {env : Env} (h : isSlice i = false) : ∀ v, assign (.Subscript o i pos) env v = (do
      let ov ← holding [v] (eval o env)
      let iv ← holding [v, ov] (eval i env)
      standAt pos
      holding [v, ov, iv] (setItem ov iv v)
      release [v, ov, iv] []) := by
  intro v
  cases i <;> first | rfl | simp [isSlice] at h
theorem aug_sub {i : Expr} (h : isSlice i = false) : ∀ ov iv new, augStore i ov iv new = (do holding [new, ov, iv] (setItem ov iv new); release [new, ov, iv] []; pure .next) := by
  intro ov iv new
  cases i <;> first | rfl | simp [isSlice] at h
theorem asg_mkTup {gs : List MG} {vs : List LV} {φ : Slots} : asgG (.tp gs) (mkTup vs) φ = asgGs gs vs φ := by
  unfold mkTup
  split
  · rename_i ps h
    rw [unpv_eq h]
    simp only [asgG]
  · simp only [asgG]
theorem rd_par {i j : Nat} {ta : TA} {a b : ME} (h : RdA M X.K W ta (evEs S [a, b])) : RdS M X.K W (tPar i j ta) (exS S (.asg (.tp [.nm i, .nm j]) (.tup [a, b]))) := by
  intro D σ H φ F ρ st r hh hs e p
  simp only [exS, evE] at e
  unfold tPar
  cases q : evEs S [a, b] φ st with
  | none => rw [q] at e; cases e
  | some rs =>
    rw [q] at e
    cases rs with
    | ex x st1 =>
      simp only [Rs.bind, R.bf, Option.some.injEq] at e
      subst e
      exact h σ H _ φ F ρ st _ hh hs q fun F1 ρ1 H1 cls d g1 h1 x1 => p F1 ρ1 H1 σ cls d g1 h1 (hs.g g1) x1
    | ok vs st1 =>
      refine h σ H _ φ F ρ st _ hh hs q fun F1 ρ1 H1 us g1 h1 r1 => ?_
      have l := evEs_len q
      match vs, l, us, r1, e with
      | [x, y], _, us, r1, e =>
        simp only [RLs] at r1
        obtain ⟨v, r', e1, rx, w, r'', e2, ry, e3⟩ := r1
        subst e1 e2 e3
        refine ⟨v, w, rfl, ?_⟩
        simp only [Rs.bind] at e
        rw [if_pos (show ([x, y] : List LV).length ≤ line from (show 2 ≤ line by decide))] at e
        simp only [R.bf] at e
        rw [asg_mkTup] at e
        simp only [asgGs, asgG, Option.map_some, Option.some.injEq] at e
        subst e
        exact p F1 ρ1 H1 _ g1 h1 (((hs.g g1).set i rx).set j ry)
theorem rd_par3 {i j l : Nat} {ta : TA} {a b c : ME} (h : RdA M X.K W ta (evEs S [a, b, c])) : RdS M X.K W (tPar3 i j l ta) (exS S (.asg (.tp [.nm i, .nm j, .nm l]) (.tup [a, b, c]))) := by
  intro D σ H φ F ρ st r hh hs e p
  simp only [exS, evE] at e
  unfold tPar3
  cases q : evEs S [a, b, c] φ st with
  | none => rw [q] at e; cases e
  | some rs =>
    rw [q] at e
    cases rs with
    | ex x st1 =>
      simp only [Rs.bind, R.bf, Option.some.injEq] at e
      subst e
      exact h σ H _ φ F ρ st _ hh hs q fun F1 ρ1 H1 cls d g1 h1 x1 => p F1 ρ1 H1 σ cls d g1 h1 (hs.g g1) x1
    | ok vs st1 =>
      refine h σ H _ φ F ρ st _ hh hs q fun F1 ρ1 H1 us g1 h1 r1 => ?_
      have l := evEs_len q
      match vs, l, us, r1, e with
      | [x, y, z], _, us, r1, e =>
        simp only [RLs] at r1
        obtain ⟨v, r', e1, rx, w, r'', e2, ry, u, r3, e3, rz, e4⟩ := r1
        subst e1 e2 e3 e4
        refine ⟨v, w, u, rfl, ?_⟩
        simp only [Rs.bind] at e
        rw [if_pos (show ([x, y, z] : List LV).length ≤ line from (show 3 ≤ line by decide))] at e
        simp only [R.bf] at e
        rw [asg_mkTup] at e
        simp only [asgGs, asgG, Option.map_some, Option.some.injEq] at e
        subst e
        exact p F1 ρ1 H1 _ g1 h1 ((((hs.g g1).set i rx).set j ry).set _ rz)
/-- name = [..] within -/
theorem snd_comp (C : Cok X g M S W k) {live : Bool} {elt : ME} {tg : MG} {ik : IK} {src : List ME} {ifs : List MT} {own : List Nat} {elx : Expr} {gs : List Comprehension} {scope : Scope} {pos : Pos}
    (h : chkE g (.lc live elt tg ik src ifs own) (.ListComp elx gs scope pos) = true) {i : Nat} {y : Str} {py spos : Pos} (hi : g.N[i]? = some y) (hy : g.sc.names.lookup y = some .local)
    (hsw : swC g (.ListComp elx gs scope pos) y py = true) : SS X M S W (.asg (.nm i) (.lc live elt tg ik src ifs own)) (.Assign [.Name y py] (.ListComp elx gs scope pos) spos) := by
  unfold chkE at h
  simp only at h
  split at h
  · rename_i t it is ow hc ho
    split at h
    · rename_i xs hsrc
      simp only [Bool.and_eq_true, Bool.not_eq_true'] at h
      obtain ⟨⟨⟨⟨⟨⟨h1, hown⟩, h2⟩, h3⟩, h4⟩, h5⟩, hhot⟩ := h
      have B := blkOk_by h1
      have hgs : gs = [⟨t, it, is, 0⟩] := by
        unfold comps at hc
        split at hc
        · split at hc
          · rename_i ha
            simp only [Option.some.injEq, Prod.mk.injEq] at hc
            obtain ⟨e1, e2, e3⟩ := hc
            subst e1 e2 e3 ha; rfl
          · cases hc
        · cases hc
      subst hgs
      have how : ∀ (own : List Nat) (ow : List (Str × Nat)), ownOf g.N own = some ow → ow.map (·.2) = own := by
        intro own
        induction own with
        | nil => intro ow e; simp only [ownOf, Option.some.injEq] at e; subst e; rfl
        | cons i r ih =>
          intro ow e
          unfold ownOf at e
          split at e
          · simp only [Option.map_eq_some_iff] at e
            obtain ⟨ow', e1, e2⟩ := e
            subst e2
            simp [ih ow' e1]
          · cases e
      have hown2 := how own ow ho
      obtain ⟨wi, i1, i2, i3⟩ := iter_ok C hsrc (snds src g X W _ C h3) (tg := t)
      have B' : BlkOk X.N X.env.scope scope ow := by rw [C.N, C.sc]; exact B
      have sub : ∀ i ∈ slotsG tg, i ∈ own := fun i hi => by
        have := List.all_eq_true.mp hown i hi
        simpa using this
      obtain ⟨tg', hg1, hg2⟩ := all_PG (Xs := fun b : Blk => b.cx X scope) (K := X.K) (M := M) fun b => tgt (C.blk hhot scope b.s b.H b.A b.cl b.fp) tg t h2
      obtain ⟨te, he1, he2⟩ := all_PE (Xs := fun b : Blk => b.cx X scope) (K := X.K) (W := W0) (M := M) fun b => snd elt (g.blk scope) (b.cx X scope) W0 elx (C.blk hhot scope b.s b.H b.A b.cl b.fp) h5
      have tests : ∃ tt, (∀ b : Blk, PTs (b.cx X scope) is tt) ∧ RdTurn M X.K tt te fun φ st => evIf S ifs φ st fun st => R.bs (evE S elt φ st) fun y st => some (.ok [y] st) := by
        match ifs, h4 with
        | [], h4 =>
          simp only [chkIfs, List.isEmpty_iff] at h4
          subst h4
          exact ⟨tYes, fun b => pts_nil, turn_nil he2⟩
        | c :: cs, h4 =>
          match cs, is, h4 with
          | [], [e'], h4 =>
            simp only [chkIfs] at h4
            obtain ⟨tt, t1, t2⟩ := all_PT (Xs := fun b : Blk => b.cx X scope) (K := X.K) (W := W0) (M := M) fun b => sndT c (g.blk scope) (b.cx X scope) W0 e' (C.blk hhot scope b.s b.H b.A b.cl b.fp) h4
            exact ⟨tt, fun b => pts_one (t1 b), turn_one t2 he2⟩
          | [], [], h4 => simp [chkIfs] at h4
          | [], _ :: _ :: _, h4 => simp [chkIfs] at h4
          | _ :: _, _, h4 => simp [chkIfs] at h4
      obtain ⟨tt, t1, t2⟩ := tests
      refine ⟨_, ps_setLc (C.calm hhot) C.nd (by rw [C.N]; exact hi) (by rw [C.sc]; exact hy) (by rw [swC_ok C.sc, hsw]) i1 B' (fun s H A cl fp => hg1 ⟨s, H, A, cl, fp⟩) (fun s H A cl fp => t1 ⟨s, H, A, cl, fp⟩) (fun s H A cl fp => he1 ⟨s, H, A, cl, fp⟩) (fun x => i3 X.env x), ?_⟩
      rw [hown2]
      refine fun D σ H φ F ρ st r hh hs e p => rd_asg (m := .nm i) (rd_lc i2 hg2 sub t2) ?_ D σ H φ F ρ st r hh hs (by simpa only [exS] using e) p
      intro x v φ φ' σ F ρ H st Q hh hs r e q
      simp only [asgG, Option.some.injEq] at e
      subst e
      exact q _ (hs.set i r) fun vs hv => wipe_set (hv i (by simp [slotsG]))
    · cases h
  · cases h
/-- an assignment by its plain way -/
theorem snd_asg (C : Cok X g M S W k) {m : MG} {e : ME} {t v : Expr} {pos : Pos} (h1 : chkG g m t = true) (h2 : chkE g e v = true) (hs : swapsWithSole [t] v pos.line X.env = pure false) (hw : swappedStores [t] v X.env = pure none) (h3 : (assignEach [t] X.env).map (·.2) = [assign t X.env]) :
    SS X M S W (.asg m e) (.Assign [t] v pos) := by
  obtain ⟨tg, g1, g2⟩ := tgt C m t h1
  obtain ⟨te, e1, e2⟩ := snd e g X W v C h2
  exact ⟨_, ps_asg e1 g1 hs hw h3, fun D σ H φ F ρ st r hh hs e p => rd_asg e2 g2 D σ H φ F ρ st r hh hs (by simpa only [exS] using e) p⟩
theorem loc1_ok (C : Cok X g M S W k) {x : Str} (h : loc1 g x = true) : X.env.scope.names.lookup x = some .local := by
  rw [C.sc]
  exact of_decide_eq_true h
theorem nm_at {i : Nat} {x : Str} {p : Pos} (h : chkG g (.nm i) (.Name x p) = true) : g.N[i]? = some x := by
  simp only [chkG, Bool.and_eq_true, decide_eq_true_eq] at h
  exact h.1
theorem snd_way (C : Cok X g M S W k) {m : MG} {e : ME} {t v : Expr} {pos : Pos} (h1 : chkG g m t = true) (h2 : chkE g e v = true) (h : wayOk g m e t v = true) : SS X M S W (.asg m e) (.Assign [t] v pos) := by
  cases t with
  | Name x p =>
    simp only [wayOk, wayOf] at h
    by_cases hsw : swC g v x p = true
    · rw [if_pos hsw] at h
      simp only at h
      unfold isLc at h
      split at h
      · rename_i live elt tg ik src ifs own elx gs scope lpos
        cases m with
        | tp _ => simp [chkG] at h1
        | nm i =>
          refine snd_comp C h2 (nm_at h1) ?_ hsw
          simp only [swC, Bool.and_eq_true, beq_iff_eq] at hsw
          exact hsw.1.1.2
      · cases h
    · exact snd_asg C h1 h2 (by rw [sole, swC_ok C.sc]; simp [hsw]) st_name rfl
  | Tuple ts kk p =>
    have a1 : (assignEach [.Tuple ts kk p] X.env).map (·.2) = [assign (.Tuple ts kk p) X.env] := rfl
    cases v with
    | Tuple vs k' p' =>
      simp only [wayOk, wayOf] at h
      cases hsw : swp g ts vs with
      | none => simp [hsw] at h
      | some r =>
        have hw := swp_ok (p := p) (p' := p') (k := kk) (k' := k') C.sc hsw
        cases r with
        | none => exact snd_asg C h1 h2 (sole.trans sw_tup) hw a1
        | some ns =>
          simp only [hsw, Bool.and_eq_true, Bool.not_eq_true'] at h
          obtain ⟨hhot, h⟩ := h
          unfold parOk at h
          split at h
          · rename_i i j ma mb x px y py kt pt a b k2 pt2 heq1 heq2
            simp only [Expr.Tuple.injEq] at heq1 heq2
            obtain ⟨e1, e2, e3⟩ := heq1
            obtain ⟨e4, e5, e6⟩ := heq2
            subst e1 e2 e3 e4 e5 e6
            simp only [Bool.and_eq_true, decide_eq_true_eq] at h
            obtain ⟨⟨⟨hij, hx⟩, hy⟩, hn⟩ := h
            subst hn
            simp only [chkG, chkGs, Bool.and_eq_true, decide_eq_true_eq] at h1
            simp only [chkE] at h2
            obtain ⟨ta, p1, p2⟩ := (snds _ g X W _ C h2).pa
            exact ⟨_, ps_par (C.calm hhot) C.nd (by rw [C.N]; exact h1.2.1.1.1) (by rw [C.N]; exact h1.2.2.1.1.1) hij (loc1_ok C hx) (loc1_ok C hy) p1 hw (sole.trans sw_tup), rd_par p2⟩
          · rename_i i j l ma mb mc x px y py z pz kt pt a b c k2 pt2 heq1 heq2
            simp only [Expr.Tuple.injEq] at heq1 heq2
            obtain ⟨e1, e2, e3⟩ := heq1
            obtain ⟨e4, e5, e6⟩ := heq2
            subst e1 e2 e3 e4 e5 e6
            simp only [Bool.and_eq_true, decide_eq_true_eq] at h
            obtain ⟨⟨⟨⟨⟨⟨hij, hil⟩, hjl⟩, hx⟩, hy⟩, hz⟩, hn⟩ := h
            subst hn
            simp only [chkG, chkGs, Bool.and_eq_true, decide_eq_true_eq] at h1
            simp only [chkE] at h2
            obtain ⟨ta, p1, p2⟩ := (snds _ g X W _ C h2).pa
            exact ⟨_, ps_par3 (C.calm hhot) C.nd (by rw [C.N]; exact h1.2.1.1.1) (by rw [C.N]; exact h1.2.2.1.1.1) (by rw [C.N]; exact h1.2.2.2.1.1.1) hij hil hjl (loc1_ok C hx) (loc1_ok C hy) (loc1_ok C hz) p1 hw (sole.trans sw_tup), rd_par3 p2⟩
          · cases h
    | _ => exact snd_asg C h1 h2 (sole.trans sw_tup) (by unfold swappedStores; rfl) a1
  | _ => cases m <;> simp [chkG] at h1
theorem get_Z (hu : room2 X) : PGet X (rIxZ X.K) := by
  intro pins s σ H x y v u Q I rx ry h
  rcases h with h | h | h | h
  · obtain ⟨p, xs, i, z, rfl, rfl, hq, he, q⟩ := h
    cases rx
    obtain ⟨t, rfl⟩ := ry
    obtain ⟨its, r, pl, hz⟩ := I.list hq
    obtain ⟨j, h1, h2, h3, h4, h5⟩ := atI_get he
    obtain ⟨w, ew, rw'⟩ := r.get h2
    have hl := r.length
    have hn := line63
    have fin : EP X pins σ Q w s := ⟨z, H, I, rw', q⟩
    by_cases h0 : 0 ≤ i
    · have hj : i.toNat = j := by
        rw [seqIndex_of h0 h5] at h1
        exact Option.some.inj h1
      exact wpAny_getItem_list pl.isList h0 (by omega) (by rw [hj]; simpa using ew) fin
    · have hj : (i + (its.toArray.size : Int)).toNat = j := by
        rw [seqIndex_neg (by omega) h4] at h1
        rw [List.size_toArray, ← hl]
        exact Option.some.inj h1
      exact wpAny_getItem_list_neg pl.isList (by omega) (by rw [List.size_toArray] <;> omega) (by omega) (by rw [hj]; simpa using ew) fin
  · obtain ⟨p, xs, i, z, rfl, rfl, hq, he, q⟩ := h
    cases rx
    obtain ⟨t, rfl⟩ := ry
    obtain ⟨its, r, pl, hz⟩ := I.tuple hq
    obtain ⟨j, h1, h2, h3, h4, h5⟩ := atI_get he
    obtain ⟨w, ew, rw'⟩ := r.get h2
    have hl := r.length
    have hn := line63
    exact getItem_tuple (j := j) pl (by omega) (by omega) (by rw [List.size_toArray, ← hl]; exact h1) (by simpa using ew) ⟨z, H, I, rw', q⟩
  · obtain ⟨z, i, c, rfl, rfl, hz, he, q⟩ := h
    obtain ⟨t, rfl⟩ := rx
    obtain ⟨t', rfl⟩ := ry
    obtain ⟨j, h1, h2, h3, h4, h5⟩ := atI_get he
    have hl : z.cps.toList.length = z.length := by simp [Str.length]
    rw [hl] at h1 h4 h5
    have hn := line63
    exact getItem_str (c := c) (by
      have e1 : decide (i < -(2 ^ 63 : Int)) = false := decide_eq_false (by omega)
      have e2 : decide (i ≥ 2 ^ 63) = false := decide_eq_false (by omega)
      rw [e1, e2, Bool.or_false]) (by rw [h1]; simpa using h2) ⟨.str ⟨#[c]⟩, H, I.tok _, ⟨_, rfl⟩, q⟩
  · obtain ⟨a, z, e, g, q⟩ := h
    subst e
    obtain rfl : v = Value.ref a := rx
    exact d_getItem (by have h1 : X.A.units + 600 < cLine := hu; omega) I g ry fun w' s' I' r' => ⟨z, H, I', r', q⟩
theorem chk_pass {s : Stmt} (h : chkS g .pass s = true) : PS X s tNext := by
  unfold chkS at h
  split at h
  · exact ps_pass
  · exact ps_doc
  · cases h
theorem noSwapE {x : Expr} {l : Nat} {env : Env} (h : isComp x = false) : swapsWith x none l env = pure false := noSwap h
mutual
theorem sndS : ∀ (m : MS) (M : Nm) (g : SC) (X : Cx) (W : WX) (s : Stmt), Cok X g M S W k → chkS g m s = true → SS X M S W m s
  | .pass, M, g, X, W, s, C, h => ⟨tNext, chk_pass h, fun D σ H φ F ρ st r hh hs e p => by
    simp only [exS, Option.some.injEq] at e
    subst e
    exact p F ρ H σ (G.refl _ _ _) hh hs⟩
  | .ex e, M, g, X, W, s, C, h => by
    unfold chkS at h
    split at h
    · simp only [Bool.and_eq_true, Bool.not_eq_true'] at h
      obtain ⟨te, e1, e2⟩ := snd e g X W _ C h.2
      exact ⟨_, ps_expr e1 (noSwapE h.1), fun D σ H φ F ρ st r hh hs e p => rd_drop e2 D σ H φ F ρ st r hh hs (by simpa only [exS] using e) p⟩
    · cases h
  | .asg m e, M, g, X, W, s, C, h => by
    unfold chkS at h
    split at h
    · simp only [Bool.and_eq_true] at h
      exact snd_way C h.1.1 h.1.2 h.2
    · cases h
  | .asgI a i e, M, g, X, W, s, C, h => by
    unfold chkS at h
    split at h
    · simp only [Bool.and_eq_true, Bool.not_eq_true'] at h
      obtain ⟨⟨⟨h1, h2⟩, h3⟩, h4⟩ := h
      obtain ⟨ta, a1, a2⟩ := snd a g X W _ C h2
      obtain ⟨ti, i1, i2⟩ := snd i g X W _ C h3
      obtain ⟨te, e1, e2⟩ := snd e g X W _ C h4
      refine ⟨_, ps_asg e1 (pg_sub a1 i1 (set_Z C.un) (asg_sub h1)) (sole.trans sw_sub) st_sub rfl, ?_⟩
      intro D σ H φ F ρ st r hh hs e p
      simp only [exS] at e
      refine e2.bindS (U := fun x H1 => gSub ta ti rSetZ x σ H1 D.nx) hh hs e p fun v st1 F1 ρ1 H1 u e1 g1 h1 r1 p1 => ?_
      refine a2.bindS (U := fun o H2 => ti σ H2 fun i H3 => rSetZ o i u H3 fun H4 => D.nx σ H4) h1 (hs.g g1) e1 p1 fun x st2 F2 ρ2 H2 o e2 g2 h2 r2 p2 => ?_
      refine i2.bindS (U := fun i H3 => rSetZ o i u H3 fun H4 => D.nx σ H4) h2 (hs.g (g1.trans g2)) e2 p2 fun y st3 F3 ρ3 H3 w e3 g3 h3 r3 p3 => ?_
      simp only [Option.map_eq_some_iff] at e3
      obtain ⟨st4, e4, e5⟩ := e3
      subst e5
      exact rd_setI h3 (RL.mono g3.sub g3.pre _ _ r2) r3 (RL.mono (g2.trans g3).sub (g2.trans g3).pre _ _ r1) e4 fun H4 g4 h4 => p3 F3 ρ3 H4 σ g4 h4 ((hs.g (g1.trans g2)).g (g3.trans g4))
    · cases h
  | .aug i op e, M, g, X, W, s, C, h => by
    unfold chkS at h
    split at h
    · simp only [Bool.and_eq_true, decide_eq_true_eq] at h
      obtain ⟨⟨⟨h1, h2⟩, h3⟩, h4⟩ := h
      subst h1
      obtain ⟨hl, hf⟩ := C.loc h3
      obtain ⟨te, e1, e2⟩ := snd e g X W _ C h4
      exact ⟨_, ps_aug C.nd (by rw [C.N]; exact h2) hl e1 (op_augZ op) hf, fun D σ H φ F ρ st r hh hs e p => rd_augS e2 D σ H φ F ρ st r hh hs (by simp only [exS] at e; exact e) p⟩
    · cases h
  | .augI a i op e, M, g, X, W, s, C, h => by
    unfold chkS at h
    split at h
    · simp only [Bool.and_eq_true, decide_eq_true_eq, Bool.not_eq_true'] at h
      obtain ⟨⟨⟨⟨h0, h1⟩, h2⟩, h3⟩, h4⟩ := h
      subst h0
      obtain ⟨ta, a1, a2⟩ := snd a g X W _ C h2
      obtain ⟨ti, i1, i2⟩ := snd i g X W _ C h3
      obtain ⟨te, e1, e2⟩ := snd e g X W _ C h4
      refine ⟨_, ps_augS a1 i1 (get_Z C.un) e1 (op_augZ op) (set_Z C.un) (aug_sub h1), ?_⟩
      intro D σ H φ F ρ st r hh hs e p
      simp only [exS] at e
      refine a2.bindS (U := fun o H1 => ti σ H1 fun i H2 => rIxZ X.K o i H2 fun x H3 => te σ H3 fun y H4 => rAugZ op x y H4 fun z H5 => rSetZ o i z H5 fun H6 => D.nx σ H6) hh hs e p fun x st1 F1 ρ1 H1 o e1 g1 h1 r1 p1 => ?_
      refine i2.bindS (U := fun i H2 => rIxZ X.K o i H2 fun x H3 => te σ H3 fun y H4 => rAugZ op x y H4 fun z H5 => rSetZ o i z H5 fun H6 => D.nx σ H6) h1 (hs.g g1) e1 p1 fun y st2 F2 ρ2 H2 w e2' g2 h2 r2 p2 => ?_
      cases q : getI x y st2 with
      | none => rw [q] at e2'; cases e2'
      | some a3 =>
        rw [q] at e2'
        refine rd_getI σ H2 _ F2 ρ2 st2 x y o w a3 h2 (RL.mono g2.sub g2.pre _ _ r1) r2 q (W := W) ?_
        cases a3 with
        | ex z st3 =>
          cases e2'
          exact fun F3 ρ3 H3 cls d g3 h3 x3 => p2 F3 ρ3 H3 σ cls d g3 h3 (hs.g ((g1.trans g2).trans g3)) x3
        | ok vv st3 =>
          intro F3 ρ3 H3 u g3 h3 r3
          refine e2.bindS (U := fun y H4 => rAugZ op u y H4 fun z H5 => rSetZ o w z H5 fun H6 => D.nx σ H6) h3 (hs.g ((g1.trans g2).trans g3)) e2' (p2.g g3) fun ww st4 F4 ρ4 H4 u4 e4 g4 h4 r4 p4 => ?_
          cases q4 : augOp op vv ww st4 with
          | none => rw [q4] at e4; cases e4
          | some a5 =>
            rw [q4] at e4
            refine rd_augOp op σ H4 _ F4 ρ4 st4 vv ww u u4 a5 h4 (RL.mono g4.sub g4.pre _ _ r3) r4 q4 (W := W) ?_
            cases a5 with
            | ex z st5 =>
              cases e4
              exact fun F5 ρ5 H5 cls d g5 h5 x5 => p4 F5 ρ5 H5 σ cls d g5 h5 (hs.g ((((g1.trans g2).trans g3).trans g4).trans g5)) x5
            | ok z st5 =>
              intro F5 ρ5 H5 u5 g5 h5 r5
              simp only [R.bf, Option.map_eq_some_iff] at e4
              obtain ⟨st6, e6, e7⟩ := e4
              subst e7
              have ga := (g2.trans g3).trans (g4.trans g5)
              have gb := g3.trans (g4.trans g5)
              exact rd_setI h5 (RL.mono ga.sub ga.pre _ _ r1) (RL.mono gb.sub gb.pre _ _ r2) r5 e6 fun H6 g6 h6 => p4 F5 ρ5 H6 σ (g5.trans g6) h6 (hs.g ((g1.trans ga).trans g6))
    · cases h
  | .iff c a b, M, g, X, W, s, C, h => by
    unfold chkS at h
    split at h
    · simp only [Bool.and_eq_true] at h
      obtain ⟨tc, c1, c2⟩ := sndT c g X W _ C h.1.1
      obtain ⟨ta, a1, a2⟩ := sndSs a M g X W _ C h.1.2
      obtain ⟨tb, b1, b2⟩ := sndSs b M g X W _ C h.2
      exact ⟨_, ps_if c1 a1 b1, fun D σ H φ F ρ st r hh hs e p => rd_if c2 a2 b2 D σ H φ F ρ st r hh hs (by simpa only [exS] using e) p⟩
    · cases h
  | .whl c a, M, g, X, W, s, C, h => by
    unfold chkS at h
    split at h
    · simp only [Bool.and_eq_true] at h
      obtain ⟨tc, c1, c2⟩ := sndT c g X W _ C h.1
      obtain ⟨ta, a1, a2⟩ := sndSs a M g X W _ C h.2
      exact ⟨_, ps_while C.pass c1 a1, fun D σ H φ F ρ st r hh hs e p => rd_while c2 a2 D σ H φ F ρ st r hh hs (by simpa only [exS] using e) p⟩
    · cases h
  | .for_ tg ik src a, M, g, X, W, s, C, h => by
    unfold chkS at h
    split at h
    · rename_i t it a' pos
      split at h
      · rename_i xs hsrc
        simp only [Bool.and_eq_true, Bool.not_eq_true'] at h
        obtain ⟨tg', g1, g2⟩ := tgt C tg t h.1.1.1
        obtain ⟨wi, i1, i2, i3⟩ := iter_ok C hsrc (snds src g X W _ C h.1.1.2) (tg := t)
        obtain ⟨ta, a1, a2⟩ := sndSs a M g X W _ C h.1.2
        exact ⟨_, ps_for C.pass (C.calm h.2) i1 g1 a1 (fun x => i3 X.env x), rd_for i2 g2 a2⟩
      · cases h
    · cases h
  | .ret e, M, g, X, W, s, C, h => by
    unfold chkS at h
    split at h
    · obtain ⟨te, e1, e2⟩ := snd e g X W _ C h
      exact ⟨_, ps_ret e1, fun D σ H φ F ρ st r hh hs e p => rd_ret e2 D σ H φ F ρ st r hh hs (by simpa only [exS] using e) p⟩
    · cases h
  | .retN, M, g, X, W, s, C, h => by
    unfold chkS at h
    split at h
    · refine ⟨_, ps_retN, fun D σ H φ F ρ st r hh hs e p => ?_⟩
      simp only [exS, Option.some.injEq] at e
      subst e
      exact p F ρ H .non (G.refl _ _ _) hh (by simp only [RL, RP])
    · cases h
  | .fset c a f e, M, g, X, W, s, C, h => by
    unfold chkS at h
    split at h
    · simp only [Bool.and_eq_true, decide_eq_true_eq] at h
      obtain ⟨⟨⟨h1, h2⟩, h3⟩, h4⟩ := h
      exact ss_fset C h1 h2 (snd a g X W _ C h3) (snd e g X W _ C h4)
    · cases h
  | .faug c a f op e, M, g, X, W, s, C, h => by
    unfold chkS at h
    split at h
    · simp only [Bool.and_eq_true, decide_eq_true_eq] at h
      obtain ⟨⟨⟨⟨h0, h1⟩, h2⟩, h3⟩, h4⟩ := h
      subst h0
      exact ss_faug C h1 h2 (snd a g X W _ C h3) (snd e g X W _ C h4)
    · cases h
  | .raise c es, M, g, X, W, s, C, h => by
    unfold chkS at h
    split at h
    · split at h
      · rename_i ei hei
        simp only [Bool.and_eq_true, decide_eq_true_eq, Bool.not_eq_true'] at h
        obtain ⟨⟨⟨⟨h1, h2⟩, h3⟩, h4⟩, h5⟩ := h
        exact ss_raise C h5 hei h1 h2 (snds es g X W _ C h3) h4
      · cases h
    · cases h
  | .tryE body c slot suite, M, g, X, W, s, C, h => by
    unfold chkS at h
    split at h
    · split at h
      · rename_i i ei hei
        simp only [Bool.and_eq_true, decide_eq_true_eq, Bool.not_eq_true'] at h
        obtain ⟨⟨⟨⟨⟨⟨⟨h1, h2⟩, h3⟩, h4⟩, h5⟩, h6⟩, h7⟩, h8⟩ := h
        exact ss_tryAs C h5 h6 hei h1 h2 h3 h4 (fun X' W' C' => sndSs body M g X' W' _ C' h7) (fun X' M' C' => sndSs suite M' (g.suite i) X' W0 _ C' h8)
      · cases h
    · cases h
  | .brk, M, g, X, W, s, C, h => by
    unfold chkS at h
    split at h
    · refine ⟨_, ps_break, fun D σ H φ F ρ st r hh hs e p => ?_⟩
      simp only [exS, Option.some.injEq] at e
      subst e
      exact p F ρ H σ (G.refl _ _ _) hh hs
    · cases h
  | .cnt, M, g, X, W, s, C, h => by
    unfold chkS at h
    split at h
    · refine ⟨_, ps_continue, fun D σ H φ F ρ st r hh hs e p => ?_⟩
      simp only [exS, Option.some.injEq] at e
      subst e
      exact p F ρ H σ (G.refl _ _ _) hh hs
    · cases h
theorem sndSs : ∀ (ms : List MS) (M : Nm) (g : SC) (X : Cx) (W : WX) (ss : List Stmt), Cok X g M S W k → chkSs g ms ss = true → SSs X M S W ms ss
  | [], M, g, X, W, ss, C, h => by
    simp only [chkSs, List.isEmpty_iff] at h
    subst h
    refine ⟨_, pss_nil, fun D σ H φ F ρ st r hh hs e p => ?_⟩
    simp only [exSs, Option.some.injEq] at e
    subst e
    exact p F ρ H σ (G.refl _ _ _) hh hs
  | m :: ms, M, g, X, W, [], C, h => by simp [chkSs] at h
  | m :: ms, M, g, X, W, s :: ss, C, h => by
    simp only [chkSs, Bool.and_eq_true] at h
    obtain ⟨t, h1, h2⟩ := sndS m M g X W s C h.1
    obtain ⟨u, h3, h4⟩ := sndSs ms M g X W ss C h.2
    exact ⟨_, pss_cons h1 h3, fun D σ H φ F ρ st r hh hs e p => rd_seq h2 h4 D σ H φ F ρ st r hh hs (by simp only [exSs] at e; exact e) p⟩
end
end
end Z
end

section
/-! ZSa: the head's facts with one more question. -/
namespace Z
open PySem PySem.Spec PyProof.Rows L2
/-- He.obsD with a question of one's own -/
def obsZ (fa : List He.Fa) (fn : List He.DefD) (ck : PySem.W.Frag → Bool) (K : PySem.W.Frag) : He.AlD := ((He.obsD fa fn K).1 && ck K, (He.obsD fa fn K).2)
def SaysZ (fa : List He.Fa) (fn : List He.DefD) (ck : PySem.W.Frag → Bool) (K : PySem.W.Frag) : Prop := obsZ fa fn ck K = He.valD fn
def obsZG (n : Nat) (fa : List He.Fa) (fn : List He.DefD) (ck : PySem.W.Frag → Bool) (get : Addr → Option Obj) : He.AlD := obsZ fa fn ck (He.frG get (He.asD get n))
def hookZ (n : Nat) (fa : List He.Fa) (fn : List He.DefD) (ck : PySem.W.Frag → Bool) : PySem.W.Hook where
  α := He.AlD
  obs := fun st => obsZG n fa fn ck st.heap.get?
  val := fun _ => He.valD fn
  says := fun _ hp => ∃ K : PySem.W.Frag, K.In hp ∧ SaysZ fa fn ck K
  of := fun _ _ e => ⟨_, He.frG_in, e⟩
  keeps := fun _ _ _ ⟨K, hK, c⟩ kp => ⟨K, PySem.W.Frag.In.keeps hK kp, c⟩
theorem obsZG_eq {n : Nat} {fa : List He.Fa} {fn : List He.DefD} {ck : PySem.W.Frag → Bool} {get : Addr → Option Obj} {st : Shared} (h : ∀ a, get a = st.heap.get? a) : obsZG n fa fn ck get = (hookZ n fa fn ck).obs st := by
  obtain rfl : get = st.heap.get? := funext h
  rfl
section
variable {fa : List He.Fa} {fn : List He.DefD} {ck : PySem.W.Frag → Bool} {K : PySem.W.Frag}
theorem SaysZ.d (c : SaysZ fa fn ck K) : He.SaysD fa fn K := by
  have h1 : ((He.obsD fa fn K).1 && ck K) = true := congrArg (fun z : He.AlD => z.1) c
  have h2 : (obsZ fa fn ck K).2 = (He.valD fn).2 := congrArg (fun z : He.AlD => z.2) c
  exact Prod.ext (Bool.and_eq_true_iff.mp h1).1 h2
theorem SaysZ.own (c : SaysZ fa fn ck K) : ck K = true := by
  have h1 : ((He.obsD fa fn K).1 && ck K) = true := congrArg (fun z : He.AlD => z.1) c
  exact (Bool.and_eq_true_iff.mp h1).2
end
end Z
end

section
/-! ZSb: what the written part says of error classes, decided. -/
namespace Z
open PySem PySem.Spec PyProof.Rows L2
def oexB (K : PySem.W.Frag) (C : Addr) : Bool := (match K.lookup C with
    | some ⟨.type t, _, .cls cd, sl⟩ => decide (t = "type") && (match cd.mro, sl.toList with
      | .ref C' :: bm, [_, _, _, _, some (.builtin n), _] => decide (C' = C) && decide (n = "ValueError.__new__") && !cd.hasDel && cd.hasDict && PySem.HandSPX.refsVE bm
      | _, _ => false)
    | _ => false) && decide (PySem.W.findIn K (.ref C) "__setattr__" = some (some (.builtin "object.__setattr__"))) && decide (PySem.W.subIn K (.ref C) (.type "BaseException") = some true) && decide (PySem.W.typeIn K (.ref C) = some (.type "type")) && PySem.W.keepIn K (.ref C)
theorem oexB_ok {K : PySem.W.Frag} {C : Addr} (h : oexB K C = true) : OexC K C := by
  unfold oexB at h
  simp only [Bool.and_eq_true, decide_eq_true_eq] at h
  obtain ⟨⟨⟨⟨h1, h2⟩, h3⟩, h4⟩, h5⟩ := h
  refine ⟨?_, h2, h3, h4, h5⟩
  split at h1
  · rename_i t dd cd sl hl
    simp only [Bool.and_eq_true, decide_eq_true_eq] at h1
    obtain ⟨ht, h1⟩ := h1
    split at h1
    · rename_i C' bm k0 k1 k2 k3 n k5 hm hs
      simp only [Bool.and_eq_true, decide_eq_true_eq, Bool.not_eq_true'] at h1
      obtain ⟨⟨⟨⟨e1, e2⟩, e3⟩, e4⟩, e5⟩ := h1
      subst ht e1 e2
      obtain ⟨c1, c2, c3, c4, c5, c6, c7, c8, c9, c10, c11⟩ := cd
      simp only at hm e3 e4
      subst hm e3 e4
      have hs' : sl = #[k0, k1, k2, k3, some (.builtin "ValueError.__new__"), k5] := by
        apply Array.ext'
        rw [hs]
      subst hs'
      exact ⟨c1, c5, c4, c2, bm, c7, c8, c9, c10, dd, k0, k1, k2, k3, k5, hl, e5⟩
    · cases h1
  · cases h1
def eccB (K : PySem.W.Frag) (D : Addr) : Bool :=
  decide (PySem.W.findIn K (.ref D) "__getattribute__" = some (some (.builtin "BaseException.__getattribute__"))) && decide (PySem.W.findIn K (.ref D) "__getattr__" = some none) && decide (PySem.W.subIn K (.ref D) (.type "BaseException") = some true) && PySem.W.hasDictIn K D &&
  decide (PySem.W.findIn K (.ref D) "__class__" = some (some (.builtin "object.__class__"))) && decide (PySem.W.specialIn K (.builtin "object.__class__") "__get__" = some (some (.builtin "getset_descriptor.__get__"))) && decide (PySem.W.takesIn K (.builtin "object.__class__") = some true) && decide (PySem.W.mroIn K D (.type "object") = some true)
theorem eccB_ok {K : PySem.W.Frag} {D : Addr} (h : eccB K D = true) : ExcC K D ∧ XfC K D := by
  unfold eccB at h
  simp only [Bool.and_eq_true, decide_eq_true_eq] at h
  obtain ⟨⟨⟨⟨⟨⟨⟨h1, h2⟩, h3⟩, h4⟩, h5⟩, h6⟩, h7⟩, h8⟩ := h
  exact ⟨⟨h1, h2, h3, h4, h5, h6, h7, h8⟩, ⟨h1, h2, h3, h4⟩⟩
end Z
end

section
/-! ZSc: names of fields. -/
namespace Z
open PySem PySem.Spec PyProof.Rows L2
def fnmOf (l : List Str) (f : Nat) : Str := match l[f]? with
  | some x => x
  | none => mkS (List.replicate (f + 1) 0)
def fnamesOk (l : List Str) : Bool := decide l.Nodup && l.all fun x => x.cps.toList.any fun c => c != 0
theorem fnmOf_some {l : List Str} {f : Nat} {x : Str} (h : l[f]? = some x) : fnmOf l f = x := by
  unfold fnmOf; rw [h]
theorem fnmOf_inj {l : List Str} (h : fnamesOk l = true) : ∀ f f', fnmOf l f = fnmOf l f' → f = f' := by
  simp only [fnamesOk, Bool.and_eq_true, decide_eq_true_eq, List.all_eq_true] at h
  obtain ⟨nd, hz⟩ := h
  have clash : ∀ (x : Str) (n : Nat), x ∈ l → x ≠ mkS (List.replicate n 0) := fun x n hx e => by
    obtain ⟨c, hc, hne⟩ := List.any_eq_true.mp (hz x hx)
    rw [e, mkS_cps] at hc
    have := List.eq_of_mem_replicate hc
    subst this
    simp at hne
  intro f f' e
  unfold fnmOf at e
  cases h1 : l[f]? with
  | some x =>
    rw [h1] at e
    cases h2 : l[f']? with
    | some y =>
      rw [h2] at e
      simp only at e
      subst e
      obtain ⟨a1, a2⟩ := List.getElem?_eq_some_iff.mp h1
      obtain ⟨b1, b2⟩ := List.getElem?_eq_some_iff.mp h2
      exact (List.getElem_inj nd).mp (a2.trans b2.symm)
    | none =>
      rw [h2] at e
      exact absurd e (clash x _ (List.mem_of_getElem? h1))
  | none =>
    rw [h1] at e
    cases h2 : l[f']? with
    | some y =>
      rw [h2] at e
      exact absurd e.symm (clash y _ (List.mem_of_getElem? h2))
    | none =>
      rw [h2] at e
      have := congrArg List.length (mkS_inj e)
      simp at this
      exact this
end Z
end

section
/-! ZSd: a program's text with its error classes. -/
namespace Z
open PySem PySem.Spec PyProof.Rows L2
/-- an error class: fields from parameters in the order of the stores; its __init__ with its names, if it has one -/
structure EE where
  name : Str
  np : Nat
  fl : List (Nat × Nat)
  ini : Option (List Str × He.DefD)
structure DD where
  md : MD
  N : List Str
  d : He.DefD
structure Txt where
  defs : List DD
  consts : List (Str × PV)
  fnames : List Str := []
  errs : List EE := []
  subs : List (List Bool) := []
  hots : List Nat := []
  cls : List CI := []
def EE.ei (e : EE) : EI := ⟨e.name, e.np, e.fl⟩
def Txt.sub (t : Txt) (c c' : Nat) : Bool := ((t.subs[c]?).bind (·[c']?)).getD false
def Txt.xin (t : Txt) (c : Nat) : Option (Nat × List (Nat × Nat)) := (t.errs[c]?).map fun e => (e.np, e.fl)
def Txt.ead (t : Txt) (K : PySem.W.Frag) (c : Nat) : Addr := match t.errs[c]? with
  | some e => He.ga K e.name
  | none => 0
def Txt.cad (t : Txt) (K : PySem.W.Frag) (c : Nat) : Addr := match t.cls[c]? with
  | some e => He.ga K e.name
  | none => 0
def Txt.nm (t : Txt) (K : PySem.W.Frag) : Nm := { cad := t.cad K, ead := t.ead K, fnm := fnmOf t.fnames, cur := none }
def Txt.tab (t : Txt) : Tab := { cls := t.cls, defs := t.defs.map fun q => (if q.d.at_.2.isNone then some q.d.at_.1 else none, q.md.ar), glbs := t.consts.map (·.1), fnames := t.fnames, errs := t.errs.map EE.ei, hots := t.hots }
def Txt.prog (t : Txt) (shr : Nat → Bool) (wf : Nat) : Prog := { defs := t.defs.map (·.md), glb := fun i => (t.consts[i]?).map (·.2), shr := shr, wf := wf, nf := t.fnames.length, xin := t.xin, sub := t.sub }
/-- what K is asked of the error classes -/
def errB (K : PySem.W.Frag) (t : Txt) (e : EE) : Bool := eccB K (He.ga K e.name) && e.fl.all (fun q => decide (PySem.W.findIn K (.ref (He.ga K e.name)) (fnmOf t.fnames q.1) = some none)) && (match e.ini with
  | none => PySem.W.excIn K (He.ga K e.name) He.veBase "ValueError.__new__" && PySem.W.keepIn K (.ref (He.ga K e.name)) && decide (PySem.W.typeIn K (.ref (He.ga K e.name)) = some (.type "type"))
  | some _ => oexB K (He.ga K e.name) && decide (PySem.W.findIn K (.ref (He.ga K e.name)) "__init__" = some (some (.ref (He.ma K (He.ga K e.name) "__init__")))) && decide (PySem.W.typeIn K (.ref (He.ma K (He.ga K e.name) "__init__")) = some (.type "function")))
def subB (K : PySem.W.Frag) (t : Txt) : Bool := (List.range t.errs.length).all fun c => (List.range t.errs.length).all fun c' =>
  decide (PySem.W.exmOne K (.ref (t.ead K c)) (.ref (t.ead K c')) = some (t.sub c c')) && decide (PySem.W.kitOne K (.ref (t.ead K c)) (.ref (t.ead K c')) = some (t.sub c c'))
/-- what K is asked of the classes -/
def methB (K : PySem.W.Frag) (t : Txt) (C : Addr) (q : Str × Nat × Nat) : Bool := match t.defs[q.2.1]? with
  | some d => decide (d.md.ar = q.2.2) && decide (PySem.W.findIn K (.ref C) q.1 = some (some (.ref (He.fAd K d.d.at_)))) && PySem.W.isFn K (.ref (He.fAd K d.d.at_)) && PySem.W.keepIn K (.ref (He.fAd K d.d.at_)) &&
    (!decide (q.1 = ("__init__" : Str)) || (PySem.W.makesIn K C && PySem.W.keepIn K (.ref C)))
  | none => false
def clsB (K : PySem.W.Frag) (t : Txt) (ci : CI) : Bool := (He.Fa.cls ci.name).ok K && ci.fields.all (fun f => decide (PySem.W.findIn K (.ref (He.ga K ci.name)) (fnmOf t.fnames f) = some none)) && ci.meths.all (methB K t (He.ga K ci.name))
def Txt.ck (t : Txt) (K : PySem.W.Frag) : Bool := t.errs.all (errB K t) && subB K t && t.cls.all (clsB K t)
theorem subB_ok {K : PySem.W.Frag} {t : Txt} (h : subB K t = true) {c c' : Nat} (hc : c < t.errs.length) (hc' : c' < t.errs.length) :
    PySem.W.exmOne K (.ref (t.ead K c)) (.ref (t.ead K c')) = some (t.sub c c') ∧ PySem.W.kitOne K (.ref (t.ead K c)) (.ref (t.ead K c')) = some (t.sub c c') := by
  have h1 := List.all_eq_true.mp h c (List.mem_range.mpr hc)
  have h2 := List.all_eq_true.mp h1 c' (List.mem_range.mpr hc')
  simpa only [Bool.and_eq_true, decide_eq_true_eq] using h2
end Z
end

section
/-! ZS: defs. -/
namespace Z
open PySem PySem.Spec PyProof.Rows L2
/-! ### binding -/
theorem zip_lookup {α : Type} {x : Str} : ∀ {ps : List Str} {us : List α}, ps.length = us.length → x ∈ ps → ∃ u, (ps.zip us).lookup x = some u
  | [], [], _, h => absurd h (by simp)
  | p :: ps, u :: us, hl, h => by
    by_cases e : x = p
    · subst e; exact ⟨u, by simp [List.lookup]⟩
    · have hm : x ∈ ps := by
        rcases List.mem_cons.mp h with z | z
        · exact absurd z e
        · exact z
      obtain ⟨w, hw⟩ := zip_lookup (ps := ps) (us := us) (by simpa using hl) hm
      refine ⟨w, ?_⟩
      have hb : (x == p) = false := by simpa using e
      simp only [List.zip_cons_cons, List.lookup, hb]
      exact hw
theorem zip_same {α : Type} : ∀ {ps : List Str} {us : List α} {pre : List (Str × α)}, ps.length = us.length → ps.Nodup → (∀ p ∈ ps, pre.lookup p = none) → (ps.filterMap fun n => ((pre ++ ps.zip us).lookup n).map (n, ·)) = ps.zip us
  | [], [], _, _, _, _ => rfl
  | p :: ps, u :: us, pre, hl, hn, hp => by
    have h1 : ((pre ++ (p :: ps).zip (u :: us)).lookup p) = some u := by
      rw [List.lookup_append, hp p List.mem_cons_self]
      simp [List.lookup]
    rw [List.filterMap_cons, h1]
    simp only [Option.map_some, List.zip_cons_cons, List.cons.injEq, true_and]
    have hn' := List.nodup_cons.mp hn
    have ih := zip_same (ps := ps) (us := us) (pre := pre ++ [(p, u)]) (by simpa using hl) hn'.2 fun q hq => by
      rw [List.lookup_append, hp q (List.mem_cons_of_mem _ hq)]
      have e : (q == p) = false := by
        simp only [beq_eq_false_iff_ne]
        intro z
        subst z
        exact hn'.1 hq
      simp [List.lookup, e]
    rw [List.append_assoc, List.singleton_append] at ih
    exact ih
theorem bind_plain {x qual : Str} {as : List Arg} {kd : List (Option Expr)} {body : List Stmt} {scope : Scope} {kV doc pm cdv ct : Value} {an : Option Addr} {us : List Value} (hl : us.length = (as.map (·.arg)).length) (hn : (as.map (·.arg)).Nodup) :
    bindArgs (PySem.W.fnOf x qual ⟨[], as, none, [], kd, none, []⟩ body scope .none kV doc pm an cdv ct) ⟨us, []⟩ = pure ((as.map (·.arg)).zip us) := by
  have h1 : ((as.map (·.arg)).filter fun n => (((as.map (·.arg)).zip us).lookup n).isNone) = [] := by
    apply List.filter_eq_nil_iff.mpr
    intro p hp
    obtain ⟨u, hu⟩ := zip_lookup hl.symm hp
    simp [hu]
  have h2 := zip_same (us := us) (pre := []) hl.symm hn fun p _ => rfl
  rw [List.nil_append] at h2
  have h3 : seqItems? Value.none = pure none := rfl
  unfold bindArgs
  simp only [PySem.W.fnOf, List.map_nil, List.nil_append, List.forIn_nil, pure_bind, h3, Option.getD_none, Array.toList_empty, List.length_nil, Nat.zero_sub, List.drop_nil, Nat.sub_zero, Option.isNone_none, Bool.and_true, List.zip_nil_right, List.isEmpty_nil, Bool.not_true, Bool.false_eq_true, if_false, List.append_nil, h2]
  rw [hl]
  simp only [Nat.lt_irrefl, gt_iff_lt, if_false, decide_false, Bool.false_eq_true, List.take_length, h1, List.isEmpty_nil, Bool.not_true, pure_bind]
/-! ### a program by its defs -/
def argsOf (p : Arguments) : Option (List Str) := match p with
  | ⟨[], as, none, [], _, none, []⟩ => some (as.map (·.arg))
  | _ => none
def chkDef (T : Tab) (q : DD) : Bool :=
  decide (argsOf q.d.params = some (q.N.take q.md.ar)) && decide (q.N.length = q.md.nn) && decide (q.md.ar ≤ q.md.nn) && decide q.N.Nodup && decide (q.d.scope.kind = .function) && !q.d.scope.isCoroutine && !q.d.scope.isGenerator &&
  (q.N.take q.md.ar).all (fun x => decide (q.d.scope.names.lookup x = some .local) || decide (q.d.scope.names.lookup x = some .cell)) && q.d.scope.names.all (fun y => decide (y.2 ≠ .free)) &&
  q.d.dfl.isEmpty && q.d.kwd.isEmpty && chkSs { N := q.N, sc := q.d.scope, fn := fun _ => true, T := T } q.md.body q.d.body
def constFa : Str × PV → He.Fa
  | (x, .int i) => .int x i
  | (x, .str s) => .str x (mkS s)
  | (x, _) => .free x
def constOk : Str × PV → Bool
  | (_, .int _) => true
  | (_, .str s) => okS s
  | _ => false
def Txt.fa (t : Txt) : List He.Fa := t.defs.map (fun q => .glo q.d.at_.1) ++ (frees.map .free ++ (t.consts.map constFa ++ (t.errs.map (fun e => .glo e.name) ++ t.cls.map fun c => .glo c.name)))
def EE.defs (e : EE) : List He.DefD := match e.ini with
  | some q => [q.2]
  | none => []
def Txt.fn (t : Txt) : List He.DefD := t.defs.map (·.d) ++ t.errs.flatMap EE.defs
/-- the names and scope of a def -/
def chkSc (N ps : List Str) (d : He.DefD) : Bool :=
  decide (argsOf d.params = some ps) && decide (N.take ps.length = ps) && decide N.Nodup && decide (d.scope.kind = .function) && !d.scope.isCoroutine && !d.scope.isGenerator &&
  ps.all (fun x => decide (d.scope.names.lookup x = some .local) || decide (d.scope.names.lookup x = some .cell)) && d.scope.names.all (fun y => decide (y.2 ≠ .free)) && d.dfl.isEmpty && d.kwd.isEmpty
def chkErr (t : Txt) (e : EE) : Bool := match e.ini with
  | none => e.fl.isEmpty && decide (e.np = 0)
  | some (N, d) => decide (0 < e.np) && decide (e.np ≤ 100) && decide (N.length = e.np + 1) && chkSc N N d && decide (d.at_ = (e.name, some ("__init__" : Str))) && !e.fl.isEmpty && decide (e.fl.length ≤ 800) && chkInit N d.scope (e.fl.map fun q => (fnmOf t.fnames q.1, q.2)) d.body
def Txt.ok (t : Txt) : Bool := t.defs.all (chkDef t.tab) && t.consts.all constOk && t.errs.all (chkErr t) && fnamesOk t.fnames &&
  t.hots.all fun f => match t.defs[f]? with
    | some q => chkSs { N := q.N, sc := q.d.scope, fn := fun _ => true, T := t.tab, hot := true } q.md.body q.d.body
    | none => true
theorem sc_ok {N ps : List Str} {d : He.DefD} (h : chkSc N ps d = true) : FnScope N ps d.scope ∧ (∀ (kV doc pm cdv ct : Value) (an : Option Addr) (us : List Value), us.length = ps.length → bindArgs (PySem.W.fnOf d.name d.qual d.params d.body d.scope .none kV doc pm an cdv ct) ⟨us, []⟩ = pure (ps.zip us)) ∧ d.dfl.isEmpty = true ∧ d.kwd.isEmpty = true := by
  simp only [chkSc, Bool.and_eq_true, decide_eq_true_eq] at h
  obtain ⟨⟨⟨⟨⟨⟨⟨⟨⟨h1, h2⟩, h3⟩, h4⟩, h5⟩, h6⟩, h7⟩, h8⟩, h9⟩, h10⟩ := h
  refine ⟨⟨h4, by simpa using h5, by simpa using h6, h3, h2, fun x hx => ?_, fun y hy => ?_⟩, fun kV doc pm cdv ct an us hl => ?_, h9, h10⟩
  · have := List.all_eq_true.mp h7 x hx
    simpa [Bool.or_eq_true] using this
  · have := List.all_eq_true.mp h8 y hy
    simpa using this
  · unfold argsOf at h1
    split at h1
    · rename_i as kd hp
      simp only [Option.some.injEq] at h1
      rw [hp, ← h1]
      refine bind_plain (by rw [h1]; exact hl) ?_
      rw [h1, ← h2]
      exact h3.sublist (List.take_sublist _ _)
    · cases h1
end Z
end

section
/-! ZSf: every def of the text keeps its promise. -/
namespace Z
open PySem PySem.Spec PyProof.Rows L2
theorem fa_all {fa : List He.Fa} {fn : List He.DefD} {K : PySem.W.Frag} (c : He.SaysD fa fn K) {f : He.Fa} (h : f ∈ fa) : f.ok K = true := by
  obtain ⟨i, hi, e⟩ := List.mem_iff_getElem.mp h
  exact c.fact i (by rw [List.getElem?_eq_getElem hi, e])
theorem fn_mem {fa : List He.Fa} {fn : List He.DefD} {K : PySem.W.Frag} (c : He.SaysD fa fn K) {d : He.DefD} (h : d ∈ fn) : ∃ fd, FunD K d.name d.qual d.params d.body d.scope (d.dvs K) (d.kws K) (He.fAd K d.at_) fd := by
  obtain ⟨i, hi, e⟩ := List.mem_iff_getElem.mp h
  exact c.def_ i (by rw [List.getElem?_eq_getElem hi, e])
theorem sl_start {M : Nm} {K : PySem.W.Frag} {F : Hp} {ρ : List Addr} {args : List LV} {vs : List V} {N : List Str} (r : RLs K F ρ args vs) : SL M K F ρ (start N vs) (args.map some ++ List.replicate (N.length - args.length) none) := by
  have hl := r.length
  refine ⟨by simp [L2.start, hl], fun i x hx => ?_⟩
  by_cases hi : i < args.length
  · rw [List.getElem?_append_left (by simpa using hi), List.getElem?_map, Option.map_eq_some_iff] at hx
    obtain ⟨y, e1, e2⟩ := hx
    cases e2
    obtain ⟨v, h1, h2⟩ := r.get e1
    refine ⟨v, ?_, .of h2⟩
    unfold L2.start
    rw [List.getElem?_append_left (by rw [List.length_map, ← hl]; exact hi), List.getElem?_map, h1]
    rfl
  · rw [List.getElem?_append_right (by simpa using hi), List.getElem?_replicate] at hx
    split at hx <;> cases hx
theorem dvs_nil {d : He.DefD} {K : PySem.W.Frag} (h : d.dfl.isEmpty = true) : d.dvs K = [] := by
  unfold He.DefD.dvs
  rw [List.isEmpty_iff.mp h]; rfl
theorem kws_nil {d : He.DefD} {K : PySem.W.Frag} (h : d.kwd.isEmpty = true) : d.kws K = [] := by
  unfold He.DefD.kws
  rw [List.isEmpty_iff.mp h]; rfl
structure DefOk (T : Tab) (q : DD) : Prop where
  args : argsOf q.d.params = some (q.N.take q.md.ar)
  nn : q.N.length = q.md.nn
  ar : q.md.ar ≤ q.md.nn
  nd : q.N.Nodup
  kind : q.d.scope.kind = .function
  co : q.d.scope.isCoroutine = false
  gen : q.d.scope.isGenerator = false
  par : ∀ x ∈ q.N.take q.md.ar, q.d.scope.names.lookup x = some .local ∨ q.d.scope.names.lookup x = some .cell
  nofree : ∀ y ∈ q.d.scope.names, y.2 ≠ .free
  dfl : q.d.dfl.isEmpty = true
  kwd : q.d.kwd.isEmpty = true
  body : chkSs { N := q.N, sc := q.d.scope, fn := fun _ => true, T := T } q.md.body q.d.body = true
theorem DefOk.of {T : Tab} {q : DD} (h : chkDef T q = true) : DefOk T q := by
  simp only [chkDef, Bool.and_eq_true, decide_eq_true_eq] at h
  obtain ⟨⟨⟨⟨⟨⟨⟨⟨⟨⟨⟨h1, h2⟩, h3⟩, h4⟩, h5⟩, h6⟩, h7⟩, h8⟩, h9⟩, h11⟩, h12⟩, h13⟩ := h
  refine ⟨h1, h2, h3, h4, h5, by simpa using h6, by simpa using h7, fun x hx => ?_, fun y hy => ?_, h11, h12, h13⟩
  · have := List.all_eq_true.mp h8 x hx
    simpa [Bool.or_eq_true] using this
  · have := List.all_eq_true.mp h9 y hy
    simpa using this
theorem DefOk.len {T : Tab} {q : DD} (h : DefOk T q) : (q.N.take q.md.ar).length = q.md.ar := by
  have h1 := h.nn
  have h2 := h.ar
  rw [List.length_take, h1]; omega
theorem DefOk.scope {T : Tab} {q : DD} (h : DefOk T q) : FnScope q.N (q.N.take q.md.ar) q.d.scope := ⟨h.kind, h.co, h.gen, h.nd, by rw [h.len], h.par, h.nofree⟩
theorem DefOk.binds {T : Tab} {q : DD} (h : DefOk T q) {kV doc pm cdv ct : Value} {an : Option Addr} {us : List Value} (hl : us.length = (q.N.take q.md.ar).length) :
    bindArgs (PySem.W.fnOf q.d.name q.d.qual q.d.params q.d.body q.d.scope .none kV doc pm an cdv ct) ⟨us, []⟩ = pure ((q.N.take q.md.ar).zip us) := by
  have h1 := h.args
  unfold argsOf at h1
  split at h1
  · rename_i as kd hp
    simp only [Option.some.injEq] at h1
    rw [hp, ← h1]
    exact bind_plain (by rw [h1]; exact hl) (by rw [h1]; exact h.nd.sublist (List.take_sublist _ _))
  · cases h1
section
variable {P : Program} {w : World} {K : PySem.W.Frag} {mg : Str → Option Value} {base h : Heap} {t : Txt} {M : Nm} {shr : Nat → Bool} {wf : Nat}
theorem endR_post {F H : Hp} {ρ : List Addr} {Q : VK} {E : XK} {fr : FR} {r : ER} (e : endR (some fr) = some r) (p : PostE M K (fun cls d _ H => E cls d H) [] F ρ H Q r) :
    PostS M K (fun cls d _ H => E cls d H) F ρ H { nx := fun _ H' => Q .non H', rt := Q } fr := by
  cases fr with
  | nx φ st =>
    simp only [endR, Option.some.injEq] at e
    subst e
    exact fun F' ρ' H' σ' g h s => p F' ρ' H' .non g h (by simp only [RL, RP])
  | rt v st =>
    simp only [endR, Option.some.injEq] at e
    subst e
    exact p
  | bk φ st => simp [endR] at e
  | ct φ st => simp [endR] at e
  | ex x φ st =>
    simp only [endR, Option.some.injEq] at e
    subst e
    exact fun F' ρ' H' σ' cls d g h s x => p F' ρ' H' cls d g h x
/-- what K says of the text -/
structure Says (t : Txt) (K : PySem.W.Frag) (h : Heap) (mg : Str → Option Value) : Prop where
  kin : K.In h
  ns : h.Ns mainGlobals mg
  c : He.SaysD t.fa t.fn K
  ck : t.ck K = true
  ok : t.ok = true
structure TxtOk (t : Txt) : Prop where
  defs : ∀ q ∈ t.defs, DefOk t.tab q
  consts : ∀ q ∈ t.consts, constOk q = true
  errs : ∀ q ∈ t.errs, chkErr t q = true
  fn : fnamesOk t.fnames = true
  hots : ∀ f ∈ t.hots, ∀ q, t.defs[f]? = some q → chkSs { N := q.N, sc := q.d.scope, fn := fun _ => true, T := t.tab, hot := true } q.md.body q.d.body = true
theorem TxtOk.of (h : t.ok = true) : TxtOk t := by
  simp only [Txt.ok, Bool.and_eq_true, List.all_eq_true] at h
  obtain ⟨⟨⟨⟨h1, h2⟩, h3⟩, h4⟩, h5⟩ := h
  refine ⟨fun q hq => .of (h1 q hq), h2, h3, h4, fun f hf q hq => ?_⟩
  have := h5 f hf
  rw [hq] at this
  exact this
theorem Says.free (Y : Says t K h mg) {x : Str} (hx : x ∈ frees) : mg x = none := He.free_ok Y.kin Y.ns (fa_all Y.c (by
    unfold Txt.fa
    exact List.mem_append_right _ (List.mem_append_left _ (List.mem_map.mpr ⟨x, hx, rfl⟩))))
theorem Says.defAt (Y : Says t K h mg) {f : Nat} {q : DD} (hq : t.defs[f]? = some q) : mg q.d.at_.1 = some (.ref (He.ga K q.d.at_.1)) := by
  have hm := List.mem_of_getElem? hq
  exact He.glo_ok Y.kin Y.ns (fa_all Y.c (by unfold Txt.fa; exact List.mem_append_left _ (List.mem_map.mpr ⟨q, hm, rfl⟩)))
theorem Says.one (Y : Says t K h mg) {f : Nat} {q : DD} (hq : t.defs[f]? = some q) : ∃ fd, FunD K q.d.name q.d.qual q.d.params q.d.body q.d.scope [] [] (He.fAd K q.d.at_) fd := by
  have hm := List.mem_of_getElem? hq
  have D := (TxtOk.of Y.ok).defs q hm
  obtain ⟨fd, F⟩ := fn_mem Y.c (d := q.d) (by unfold Txt.fn; exact List.mem_append_left _ (List.mem_map.mpr ⟨q, hm, rfl⟩))
  rw [dvs_nil D.dfl, kws_nil D.kwd] at F
  exact ⟨fd, F⟩
theorem Says.glb (Y : Says t K h mg) (i : Nat) (x : Str) (z : PV) (h1 : t.tab.glbs[i]? = some x) (h2 : (t.consts[i]?).map (·.2) = some z) : ∃ u v, mg x = some u ∧ L2.RelV v u ∧ flat z = true ∧ RP K (fun _ => none) z v := by
  have h1' : (t.consts.map (·.1))[i]? = some x := h1
  rw [List.getElem?_map, Option.map_eq_some_iff] at h1'
  obtain ⟨y, e1, e2⟩ := h1'
  rw [e1] at h2
  simp only [Option.map_some, Option.some.injEq] at h2
  obtain ⟨yx, yz⟩ := y
  simp only at e2 h2
  subst e2 h2
  have hk := (TxtOk.of Y.ok).consts _ (List.mem_of_getElem? e1)
  have hf : constFa (yx, yz) ∈ t.fa := by
    unfold Txt.fa
    exact List.mem_append_right _ (List.mem_append_right _ (List.mem_append_left _ (List.mem_map.mpr ⟨_, List.mem_of_getElem? e1, rfl⟩)))
  cases yz <;> simp only [constOk, Bool.false_eq_true] at hk
  · obtain ⟨tk, hm⟩ := He.int_ok Y.kin Y.ns (fa_all Y.c hf)
    exact ⟨_, .int _, hm, ⟨tk, rfl⟩, rfl, by simp only [RP]⟩
  · obtain ⟨tk, hm⟩ := He.str_ok Y.kin Y.ns (fa_all Y.c hf)
    exact ⟨_, .str _, hm, ⟨tk, rfl⟩, rfl, by simp only [RP, true_and]; exact hk⟩
theorem Says.ck3 (Y : Says t K h mg) : (∀ e ∈ t.errs, errB K t e = true) ∧ subB K t = true ∧ ∀ c ∈ t.cls, clsB K t c = true := by
  have h := Y.ck
  simp only [Txt.ck, Bool.and_eq_true, List.all_eq_true] at h
  exact ⟨h.1.1, h.1.2, h.2⟩
theorem tab_errs {c : Nat} {ei : EI} (h : t.tab.errs[c]? = some ei) : ∃ e, t.errs[c]? = some e ∧ e.ei = ei := by
  have h' : (t.errs.map EE.ei)[c]? = some ei := h
  rw [List.getElem?_map, Option.map_eq_some_iff] at h'
  exact h'
theorem Says.err (Y : Says t K h mg) {X : Cx} {S : Sem} {k : Nat} (hP : X.prog = P) (hw : X.w = w) (hK : X.K = K) (hm : X.mg = mg) (hS : S.xin = t.xin) (hsub : S.sub = t.sub) (hk : 2 ≤ k) (c : Nat) (ei : EI) (hc : t.tab.errs[c]? = some ei) : EOk X t.tab (t.nm K) S k c ei := by
  subst hK
  obtain ⟨e, he, rfl⟩ := tab_errs hc
  have hmem := List.mem_of_getElem? he
  obtain ⟨c1, c2, _⟩ := Y.ck3
  have hB := c1 e hmem
  have hE := (TxtOk.of Y.ok).errs e hmem
  have ead : (t.nm X.K).ead c = He.ga X.K e.name := by
    show t.ead X.K c = _
    unfold Txt.ead
    rw [he]
  simp only [errB, Bool.and_eq_true] at hB
  obtain ⟨⟨b1, b2⟩, b3⟩ := hB
  obtain ⟨ec, xf⟩ := eccB_ok b1
  have no : ∀ q ∈ e.fl, PySem.W.findIn X.K (.ref (He.ga X.K e.name)) (fnmOf t.fnames q.1) = some none := fun q hq => by
    have := List.all_eq_true.mp b2 q hq
    simpa using this
  refine ⟨?_, ?_, ?_, ?_, ?_, ?_, ?_⟩
  · rw [ead, hm]
    exact He.glo_ok Y.kin Y.ns (fa_all Y.c (by
      unfold Txt.fa
      exact List.mem_append_right _ (List.mem_append_right _ (List.mem_append_right _ (List.mem_append_left _ (List.mem_map.mpr ⟨e, hmem, rfl⟩))))))
  · rw [ead]; exact xf
  · rw [ead]; exact ec
  · intro q hq
    rw [ead]
    exact no q hq
  · intro c' ei' hc'
    obtain ⟨e', he', rfl⟩ := tab_errs hc'
    have h1 := subB_ok c2 (c := c) (c' := c') (List.getElem?_eq_some_iff.mp he).1 (List.getElem?_eq_some_iff.mp he').1
    rw [hsub]
    exact h1
  · rw [hS]
    show (t.errs[c]?).map _ = _
    rw [he]; rfl
  · rw [ead]
    unfold chkErr at hE
    cases hi : e.ini with
    | none =>
      rw [hi] at b3 hE
      simp only [Bool.and_eq_true, decide_eq_true_eq, List.isEmpty_iff] at b3 hE
      obtain ⟨⟨b4, b5⟩, b6⟩ := b3
      exact .inl ⟨hE.1, hE.2, b4, b5, raises_own ec.hs b6⟩
    | some nd =>
      obtain ⟨N, d⟩ := nd
      rw [hi] at b3 hE
      simp only [Bool.and_eq_true, decide_eq_true_eq, Bool.not_eq_true'] at b3 hE
      obtain ⟨⟨b4, b5⟩, b6⟩ := b3
      obtain ⟨⟨⟨⟨⟨⟨⟨e1, e2⟩, e3⟩, e4⟩, e5⟩, e6⟩, e7⟩, e8⟩ := hE
      have oex := oexB_ok b4
      obtain ⟨S1, B1, dz, kz⟩ := sc_ok e4
      obtain ⟨fd, F⟩ := fn_mem Y.c (d := d) (by
        unfold Txt.fn
        exact List.mem_append_right _ (List.mem_flatMap.mpr ⟨e, hmem, by unfold EE.defs; rw [hi]; exact List.mem_singleton.mpr rfl⟩))
      rw [dvs_nil dz, kws_nil kz] at F
      have had : He.fAd X.K d.at_ = He.ma X.K (He.ga X.K e.name) "__init__" := by
        rw [e5]; rfl
      rw [had] at F
      refine .inr ⟨e1, e2, oex, _, fd, N, 1, hk, b5, b6, ?_, F.bindsN fun kV doc pm an cdv ct us hl => B1 kV doc pm cdv ct an us hl⟩
      exact init_ok F S1 oex e3 (by
        intro z
        have z' := congrArg List.length z
        rw [List.length_map] at z'
        have : e.fl = [] := List.length_eq_zero_iff.mp z'
        have e6' : e.ei.fl.isEmpty = false := e6
        have : e.ei.fl = [] := this
        rw [this] at e6'
        cases e6') (by rw [List.length_map]; exact e7) (fun q hq => by
          obtain ⟨q0, h1, h2⟩ := List.mem_map.mp hq
          subst h2
          exact no q0 h1) e8
end
end Z
end

section
/-! ZSg: defs_ok. -/
namespace Z
open PySem PySem.Spec PyProof.Rows L2
section
variable {P : Program} {w : World} {K : PySem.W.Frag} {mg : Str → Option Value} {base h : Heap} {t : Txt} {shr : Nat → Bool} {wf : Nat}
/-- what a def keeps, n calls deep -/
structure DK (t : Txt) (P : Program) (w : World) (K : PySem.W.Frag) (mg : Str → Option Value) (base : Heap) (shr : Nat → Bool) (wf n f : Nat) (q : DD) (fd : FuncData) : Prop where
  fun_ : FunD K q.d.name q.d.qual q.d.params q.d.body q.d.scope [] [] (He.fAd K q.d.at_) fd
  ok : FnG P w K mg base (L2N.CX P w) (n + 30) (He.fAd K q.d.at_) fd (q.N.take q.md.ar) (spOf (t.nm K) K ((t.prog shr wf).cal n f) q.md.ar)
  hot : f ∈ t.hots → L2H.FnH P w K mg base (L2N.CX P w) (n + 30) (He.fAd K q.d.at_) fd (q.N.take q.md.ar) (spOf (t.nm K) K ((t.prog shr wf).cal n f) q.md.ar)
theorem Says.binds (Y : Says t K h mg) {f : Nat} {q : DD} {fd : FuncData} (hq : t.defs[f]? = some q) (F : FunD K q.d.name q.d.qual q.d.params q.d.body q.d.scope [] [] (He.fAd K q.d.at_) fd) : Binds K fd (q.N.take q.md.ar) [] :=
  F.bindsN fun kV doc pm an cdv ct us hl => ((TxtOk.of Y.ok).defs q (List.mem_of_getElem? hq)).binds hl
theorem Says.mgf (Y : Says t K h mg) {f : Nat} {q : DD} {x : Str} {m : Nat} (hq : t.tab.defs[f]? = some (some x, m)) (hd : t.defs[f]? = some q) : mg x = some (.ref (He.fAd K q.d.at_)) ∧ q.md.ar = m := by
  have hx' : (t.defs.map fun q => ((if q.d.at_.2.isNone then some q.d.at_.1 else none : Option Str), q.md.ar))[f]? = some (some x, m) := hq
  rw [List.getElem?_map, hd] at hx'
  simp only [Option.map_some, Option.some.injEq, Prod.mk.injEq] at hx'
  obtain ⟨e1, e2⟩ := hx'
  split at e1
  · rename_i hn
    cases e1
    refine ⟨?_, e2⟩
    have := Y.defAt hd
    rw [this]
    unfold He.fAd
    rw [Option.isNone_iff_eq_none.mp hn]
  · cases e1
/-- the calls that a body may make -/
structure CallsK (t : Txt) (P : Program) (w : World) (K : PySem.W.Frag) (mg : Str → Option Value) (base : Heap) (S : Sem) (k : Nat) : Prop where
  g : ∀ f q, t.defs[f]? = some q → ∃ fd, FunD K q.d.name q.d.qual q.d.params q.d.body q.d.scope [] [] (He.fAd K q.d.at_) fd ∧ FnG P w K mg base (L2N.CX P w) k (He.fAd K q.d.at_) fd (q.N.take q.md.ar) (spOf (t.nm K) K (S.cal f) q.md.ar) ∧
    (f ∈ t.hots → L2H.FnH P w K mg base (L2N.CX P w) k (He.fAd K q.d.at_) fd (q.N.take q.md.ar) (spOf (t.nm K) K (S.cal f) q.md.ar))
  g1 : ∃ j, j + 1 ≤ k ∧ ∀ f q, t.defs[f]? = some q → ∃ fd, FunD K q.d.name q.d.qual q.d.params q.d.body q.d.scope [] [] (He.fAd K q.d.at_) fd ∧ FnG P w K mg base (L2N.CX P w) j (He.fAd K q.d.at_) fd (q.N.take q.md.ar) (spOf (t.nm K) K (S.cal1 f) q.md.ar)
theorem Says.cls (Y : Says t K h mg) {S : Sem} {k : Nat} {X : Cx} (hX : X.prog = P ∧ X.w = w ∧ X.K = K ∧ X.mg = mg ∧ X.base = base) (D : CallsK t P w K mg base S k) (c : Nat) (ci : CI) (hc : t.tab.cls[c]? = some ci) : COk X (t.nm K) S k c ci := by
  obtain ⟨h1, h2, h3, h4, h5⟩ := hX
  subst h1 h2 h3 h4 h5
  have hc' : t.cls[c]? = some ci := hc
  have hmem := List.mem_of_getElem? hc'
  have hB := Y.ck3.2.2 ci hmem
  have cad : (t.nm X.K).cad c = He.ga X.K ci.name := by
    show t.cad X.K c = _
    unfold Txt.cad
    rw [hc']
  simp only [clsB, Bool.and_eq_true] at hB
  obtain ⟨⟨b1, b2⟩, b3⟩ := hB
  have mth : ∀ (m : Str) (f n : Nat), (m, f, n) ∈ ci.meths → ∃ d, t.defs[f]? = some d ∧ d.md.ar = n ∧ PySem.W.findIn X.K (.ref (He.ga X.K ci.name)) m = some (some (.ref (He.fAd X.K d.d.at_))) ∧ PySem.W.isFn X.K (.ref (He.fAd X.K d.d.at_)) = true ∧ PySem.W.keepIn X.K (.ref (He.fAd X.K d.d.at_)) = true ∧
      (m = ("__init__" : Str) → PySem.W.makesIn X.K (He.ga X.K ci.name) = true ∧ PySem.W.keepIn X.K (.ref (He.ga X.K ci.name)) = true) := fun m f n hm => by
    have := List.all_eq_true.mp b3 _ hm
    unfold methB at this
    split at this
    · rename_i d hd
      simp only [Bool.and_eq_true, decide_eq_true_eq, Bool.or_eq_true, Bool.not_eq_true', decide_eq_false_iff_not] at this
      obtain ⟨⟨⟨⟨g1, g2⟩, g3⟩, g4⟩, g5⟩ := this
      exact ⟨d, hd, g1, g2, g3, g4, fun e => g5.resolve_left fun z => z e⟩
    · cases this
  refine ⟨?_, ?_, ?_, ?_, ?_⟩
  · rw [cad]
    exact He.glo_ok Y.kin Y.ns (fa_all Y.c (by
      unfold Txt.fa
      exact List.mem_append_right _ (List.mem_append_right _ (List.mem_append_right _ (List.mem_append_right _ (List.mem_map.mpr ⟨ci, hmem, rfl⟩))))))
  · rw [cad]; exact He.cls_ok b1
  · intro f hf
    rw [cad]
    have := List.all_eq_true.mp b2 f hf
    show PySem.W.findIn X.K _ (fnmOf t.fnames f) = _
    simpa using this
  · intro m f n hm
    rw [cad]
    obtain ⟨d, hd, ha, m1, m2, m3, _⟩ := mth m f n hm
    obtain ⟨fd, F, G, _⟩ := D.g f d hd
    subst ha
    exact ⟨_, fd, _, ⟨m1, m2, m3⟩, G, Y.binds hd F⟩
  · intro f n hm
    rw [cad]
    obtain ⟨d, hd, ha, m1, m2, m3, m4⟩ := mth _ f n hm
    obtain ⟨j, hj, D1⟩ := D.g1
    obtain ⟨fd, F, G⟩ := D1 f d hd
    obtain ⟨m5, m6⟩ := m4 rfl
    subst ha
    exact ⟨_, fd, _, j, hj, ⟨m5, m1, m2, m6⟩, G, Y.binds hd F⟩
theorem sem_cal {n f : Nat} : ((t.prog shr wf).sem n).cal f = (t.prog shr wf).cal n f := rfl
/-- the context of a body, cold or hot -/
theorem Says.cok (Y : Says t K h mg) {n : Nat} {q : DD} (D : CallsK t P w K mg base ((t.prog shr wf).sem n) (n + 30)) {X : Cx} {E : XK} (hot : Bool) (hX : X.prog = P ∧ X.w = w ∧ X.K = K ∧ X.mg = mg ∧ X.base = base) (hN : X.N = q.N) (hsc : X.env.scope = q.d.scope) (hfn : ∀ x, X.fn x = true) (nd : q.N.Nodup)
    (calm : hot = false → X.calm = true) (hr : hot = false → Room (n + 30) X.A) (hrH : hot = true → L2H.RoomH (n + 30) X.A) (hotc : hot = true → L2H.HotC X) (un : room2 X) (gd : hot = false → X.A.guards = some [])
    (stk : X.stack = X.env :: X.outer) (frm : X.env.frame = some X.env.locals) (tk : L2N.Takes X (fun cls d _ H => E cls d H)) (pa : PassesOwn (model X.prog X.w) X.A X.env X.xe) :
    Cok X { N := q.N, sc := q.d.scope, fn := fun _ => true, T := t.tab, hot := hot } (t.nm K) ((t.prog shr wf).sem n) (fun cls d _ H => E cls d H) (n + 30) := by
  have hX' := hX
  obtain ⟨h1, h2, h3, h4, h5⟩ := hX
  subst h1 h2 h3 h4 h5
  exact {
    N := hN
    sc := hsc
    fn := fun x _ => hfn x
    nd := by rw [hN]; exact nd
    calm := calm
    hr := hr
    hrH := hrH
    hotc := hotc
    un := un
    gd := gd
    gdx := fun h => by cases h
    fr := fun x hx => Y.free hx
    glb := fun i x z h1 h2 => Y.glb i x z h1 h2
    callsH := fun f x m hx hh => by
      have hd : ∃ q2, t.defs[f]? = some q2 := by
        have hx' : (t.defs.map fun q => ((if q.d.at_.2.isNone then some q.d.at_.1 else none : Option Str), q.md.ar))[f]? = some (some x, m) := hx
        rw [List.getElem?_map, Option.map_eq_some_iff] at hx'
        obtain ⟨q2, e, _⟩ := hx'
        exact ⟨q2, e⟩
      obtain ⟨q2, e1⟩ := hd
      obtain ⟨fd2, F2, ok2, hot2⟩ := D.g f q2 e1
      obtain ⟨hm, ha⟩ := Y.mgf hx e1
      subst ha
      exact ⟨_, fd2, _, hot2 (by
        have : t.hots.contains f = true := hh
        simpa using this), hm, F2.kp, Y.binds e1 F2⟩
    calls := fun _ f x m hx => by
      have hd : ∃ q2, t.defs[f]? = some q2 := by
        have hx' : (t.defs.map fun q => ((if q.d.at_.2.isNone then some q.d.at_.1 else none : Option Str), q.md.ar))[f]? = some (some x, m) := hx
        rw [List.getElem?_map, Option.map_eq_some_iff] at hx'
        obtain ⟨q2, e, _⟩ := hx'
        exact ⟨q2, e⟩
      obtain ⟨q2, e1⟩ := hd
      obtain ⟨fd2, F2, ok2, _⟩ := D.g f q2 e1
      obtain ⟨hm, ha⟩ := Y.mgf hx e1
      subst ha
      exact ⟨_, fd2, _, ok2, hm, F2.kp, Y.binds e1 F2⟩
    errs := fun c ei hc => Y.err (P := X.prog) (w := X.w) rfl rfl rfl rfl rfl rfl (by omega) c ei hc
    cls := fun c ci hc => Y.cls hX' D c ci hc
    nf := Nat.le_refl _
    xerr := fun c hc => by
      have hc' : (t.errs[c]?).map (fun e => (e.np, e.fl)) ≠ none := hc
      cases e : t.errs[c]? with
      | none => rw [e] at hc'; exact absurd rfl hc'
      | some e' =>
        refine ⟨e'.ei, ?_⟩
        show (t.errs.map EE.ei)[c]? = _
        rw [List.getElem?_map, e]; rfl
    finj := fnmOf_inj (TxtOk.of Y.ok).fn
    fname := fun f x hx => fnmOf_some hx
    cur := rfl
    cold := fun _ => rfl
    stk := fun _ => stk
    frm := fun _ => frm
    takes := tk
    pass := pa }
theorem cal_succ {p : Prog} {n f : Nat} {vs : List LV} {st : Store} {d : MD} (h : p.defs[f]? = some d) : p.cal (n + 1) f vs st = d.run (p.sem n) vs st := by
  show p.runBy _ _ f vs st = _
  unfold Prog.runBy
  rw [h]; rfl
theorem body_ok {X : Cx} {q : DD} {n f : Nat} {D : TS} {as : List LV} {vs : List V} {F0 H : Hp} {ρ : List Addr} {st : Store} {r : ER} {Q : VK} {E : XK} {M : Nm} (hd : DefOk t.tab q) (hq : t.defs[f]? = some q)
    (t2 : RdS M X.K (fun cls d _ H => E cls d H) D (exSs ((t.prog shr wf).sem n) q.md.body)) (hh : HR' M X.K F0 ρ H st) (ra : RLs X.K F0 ρ as vs) (e : (t.prog shr wf).cal (n + 1) f as st = some r) (p : PostE M X.K (fun cls d _ H => E cls d H) [] F0 ρ H Q r) :
    D { nx := fun _ H' => Q .non H', rt := Q } (start q.N vs) H := by
  have e' : (t.prog shr wf).defs[f]? = some q.md := by
    show (t.defs.map (·.md))[f]? = _
    rw [List.getElem?_map, hq]; rfl
  rw [cal_succ e'] at e
  unfold MD.run at e
  split at e
  · rename_i hla
    have hsl := sl_start (M := M) (N := q.N) ra
    rw [hd.nn, hla] at hsl
    cases q3 : exSs ((t.prog shr wf).sem n) q.md.body (as.map some ++ List.replicate (q.md.nn - q.md.ar) none) st with
    | none => rw [q3] at e; simp [endR] at e
    | some fr =>
      rw [q3] at e
      exact t2 _ _ H _ F0 ρ st fr hh hsl q3 (endR_post e p)
  · cases e
theorem defs_ok (Y : Says t K h mg) : ∀ (n : Nat), (∀ (f : Nat) (q : DD), t.defs[f]? = some q → ∃ fd, DK t P w K mg base shr wf n f q fd) ∧ CallsK t P w K mg base ((t.prog shr wf).sem n) (n + 30) := by
  have dead : ∀ (c : Nat → List LV → Store → Option ER), (∀ f as st, c f as st = none) → ∀ k f q, t.defs[f]? = some q → ∃ fd, FunD K q.d.name q.d.qual q.d.params q.d.body q.d.scope [] [] (He.fAd K q.d.at_) fd ∧ FnG P w K mg base (L2N.CX P w) k (He.fAd K q.d.at_) fd (q.N.take q.md.ar) (spOf (t.nm K) K (c f) q.md.ar) ∧
      L2H.FnH P w K mg base (L2N.CX P w) k (He.fAd K q.d.at_) fd (q.N.take q.md.ar) (spOf (t.nm K) K (c f) q.md.ar) := fun c hc k f q hq => by
    obtain ⟨fd, F⟩ := Y.one hq
    have D := (TxtOk.of Y.ok).defs q (List.mem_of_getElem? hq)
    refine ⟨fd, F, ⟨fun vs H Q E hs => by rw [D.len]; exact hs.1, fun A outer s H args us vs Q E hr hgd he hb hv hs => ?_⟩, ⟨fun vs H Q E hs => by rw [D.len]; exact hs.1, fun A outer s H args us vs Q E pp hr hot hp he hb hv hs => ?_⟩⟩
    · obtain ⟨_, F0, ρ, st, as, r, _, _, e, _⟩ := hs
      rw [hc] at e; cases e
    · obtain ⟨_, F0, ρ, st, as, r, _, _, e, _⟩ := hs
      rw [hc] at e; cases e
  intro n
  induction n with
  | zero =>
    refine ⟨fun f q hq => ?_, ⟨fun f q hq => ?_, 0, by omega, fun f q hq => ?_⟩⟩
    · obtain ⟨fd, F, G, H⟩ := dead (fun _ _ _ => none) (fun _ _ _ => rfl) (0 + 30) f q hq
      exact ⟨fd, F, G, fun _ => H⟩
    · obtain ⟨fd, F, G, H⟩ := dead (fun _ _ _ => none) (fun _ _ _ => rfl) (0 + 30) f q hq
      exact ⟨fd, F, G, fun _ => H⟩
    · obtain ⟨fd, F, G, H⟩ := dead (fun _ _ _ => none) (fun _ _ _ => rfl) 0 f q hq
      exact ⟨fd, F, G⟩
  | succ n ih =>
    obtain ⟨ih1, D⟩ := ih
    have now : ∀ (f : Nat) (q : DD), t.defs[f]? = some q → ∃ fd, DK t P w K mg base shr wf (n + 1) f q fd := fun f q hq => by
      obtain ⟨fd, F⟩ := Y.one hq
      have hd := (TxtOk.of Y.ok).defs q (List.mem_of_getElem? hq)
      have S := hd.scope
      refine ⟨fd, F, ?_, fun hh => ?_⟩
      · refine fund_okG F S (fun vs H Q E hs => by rw [hd.len]; exact hs.1) fun cdv A outer s H vs Q E hr hgd hs => ?_
        obtain ⟨hl, F0, ρ, st, as, r, hh, ra, e, p⟩ := hs
        have C := Y.cok (q := q) D (X := cxOf (L2N.CX P w) P w K mg base q.N q.d.qual q.d.scope (He.fAd K q.d.at_) cdv A outer s H E) (E := E) false ⟨rfl, rfl, rfl, rfl, rfl⟩ rfl rfl (fun _ => rfl) hd.nd (fun _ => rfl) (fun _ => hr) (fun z => by cases z) (fun z => by cases z)
          (by have := hr.un; show (A.deeper (envOfC q.d.qual q.d.scope s.heap.objs.size (He.fAd K q.d.at_) cdv)).units + 600 < cLine; omega) (fun _ => hgd) rfl rfl (L2N.takes_of rfl rfl rfl rfl) (passes_of rfl)
        obtain ⟨ts, t1, t2⟩ := sndSs q.md.body _ _ _ _ q.d.body C hd.body
        exact ⟨ts, t1, body_ok hd hq t2 hh ra e p⟩
      · refine fund_okH F S (fun vs H Q E hs => by rw [hd.len]; exact hs.1) fun cdv A outer s H vs Q E pp hot hr hs => ?_
        obtain ⟨hl, F0, ρ, st, as, r, hh', ra, e, p⟩ := hs
        have C := Y.cok (q := q) D (X := L2H.cxH (L2N.CX P w) P w K mg base q.N q.d.qual q.d.scope (He.fAd K q.d.at_) cdv A outer s H E pp) (E := E) true ⟨rfl, rfl, rfl, rfl, rfl⟩ rfl rfl (fun _ => rfl) hd.nd (fun z => by cases z) (fun z => by cases z) (fun _ => hr) (fun _ => ⟨pp, hot, List.mem_singleton.mpr rfl⟩)
          (by have := hr.un; show (A.deeper (envOfC q.d.qual q.d.scope s.heap.objs.size (He.fAd K q.d.at_) cdv)).units + 600 < cLine; omega) (fun z => by cases z) rfl rfl (L2N.takes_of rfl rfl rfl rfl) (passes_of rfl)
        obtain ⟨ts, t1, t2⟩ := sndSs q.md.body _ _ _ _ q.d.body C ((TxtOk.of Y.ok).hots f hh q hq)
        exact ⟨ts, t1, body_ok hd hq t2 hh' ra e p⟩
    refine ⟨now, ⟨fun f q hq => ?_, n + 30, by omega, fun f q hq => ?_⟩⟩
    · obtain ⟨fd, k⟩ := now f q hq
      exact ⟨fd, k.fun_, k.ok, k.hot⟩
    · obtain ⟨fd, k⟩ := ih1 f q hq
      exact ⟨fd, k.fun_, k.ok⟩
end
end Z
end

section
/-! ZT: a law's end. -/
namespace Z
open PySem PySem.Spec PyProof.Rows L2
/-- the start of a law: what lies in the heap that its call sees -/
structure Begun (P : Program) (w : World) (K : PySem.W.Frag) (s : Shared) (a : Addr) (ns : List Int) (H : Hp) : Prop where
  frozen : Only H
  script : SqL K H a (ns.map V.int)
  hok : HOk P w H s.heap
  alone : ∀ b, H b ≠ none → b = a
  away : H a ≠ none → K.lookup a = none
theorem begin_ {P : Program} {w : World} {K : PySem.W.Frag} {s : Shared} {a : Addr} {us : List Value} {ns : List Int} (KX : K.In s.heap) (at_ : s.heap.get? a = some { cls := .type "list", data := .seq us.toArray }) (hints : IntsAre us ns) (few : ns.length ≤ sizeLine) :
    ∃ H, Begun P w K s a ns H := by
  have hv : Vals (ns.map V.int) us := vals_ints hints
  have hsz : us.length = ns.length := hints.length
  by_cases hn : K.lookup a = none
  · let H : Hp := fun b => if b = a then some (.frz { cls := .type "list", data := .seq us.toArray } (.lst (ns.map V.int))) else none
    have Ha : H a = some (.frz { cls := .type "list", data := .seq us.toArray } (.lst (ns.map V.int))) := if_pos rfl
    have Hb : ∀ b, b ≠ a → H b = none := fun b q => if_neg q
    refine ⟨H, ⟨fun b => ?_, .inl (.inr ⟨_, Ha⟩), fun b u q => ?_, fun b q => ?_, fun _ => hn⟩⟩
    · rcases Classical.em (b = a) with q | q
      · exact .inr ⟨_, _, by rw [q]; exact Ha⟩
      · exact .inl (Hb b q)
    · rcases Classical.em (b = a) with r | r
      · rw [r, Ha] at q
        cases q
        rw [r]
        exact ⟨at_, by rw [List.length_map]; exact few, us, _, hv, at_⟩
      · rw [Hb b r] at q; cases q
    · rcases Classical.em (b = a) with r | r
      · exact r
      · exact absurd (Hb b r) q
  · obtain ⟨o, ho⟩ := Option.ne_none_iff_exists'.mp hn
    have eo := (KX a o ho).symm.trans at_
    cases eo
    exact ⟨fun _ => none, ⟨fun _ => .inl rfl, .inr ⟨_, us.toArray, _, ho, rfl, rfl, rfl, by rw [List.size_toArray, hsz]; exact few, by simpa using hv⟩, fun _ _ q => (by cases q), fun _ q => absurd rfl q, fun q => absurd rfl q⟩⟩
/-- the call that a law is -/
theorem law_run {P : Program} {w : World} {K : PySem.W.Frag} {mg mb : Str → Option Value} {CX : CXT} {k : Nat} {fa a : Addr} {fd : FuncData} {x : Str} {sp : Sp} {s : Shared} {us : List Value} {ns : List Int}
    (KX : K.In s.heap) (gns : s.heap.Ns mainGlobals mg) (bns : s.heap.Ns builtinsNs mb) (boot : ∀ x : Str, x ≠ "__name__" → mb x = bootBuiltins x) (nolim : s.heap.NoLimit) (nogen : s.gens = #[])
    (at_ : s.heap.get? a = some { cls := .type "list", data := .seq us.toArray }) (hints : IntsAre us ns) (few : ns.length ≤ sizeLine) (room : Room k callerA)
    (F : ∀ base : Heap, K.In base → base.Ns mainGlobals mg → FnG P w K mg base CX k fa fd [x] sp) (bd : ∀ (s : Shared) (u : Value), BindsTo s fd ⟨[u], []⟩ [(x, u)])
    (keeps : ∀ H : Hp, Only H → SqL K H a (ns.map V.int) → sp [.ref a] H (fun v _ => v = .bl true) fun _ _ _ => False) (noex : ∀ H e s', CX [] H s (fun _ _ _ => False) e s' → False) :
    codeAny (model P w) callerA (.call (.ref fa) ⟨[.ref a], []⟩) (fun r s' => r = .ok (.ret (.bool true)) ∧ OldK s.heap s'.heap ∧ s'.os = s.os ∧ AllBare s'.gens) s := by
  obtain ⟨H, B⟩ := begin_ (P := P) (w := w) KX at_ hints few
  have apart : ∀ b o, s.heap.get? b = some o → b ≠ a → (hidT s.heap H).get? b = some o := fun b o e q => hidT_get e (Classical.byContradiction fun z => q (B.alone b z))
  have dictApart : ∀ (b : Addr) (m : Str → Option Value), s.heap.Ns b m → (hidT s.heap H).Ns b m := by
    rintro b m ⟨o, es, ep, e, d, r⟩
    refine ⟨o, es, ep, apart b o e fun q => ?_, d, r⟩
    rw [q, at_] at e
    cases e
    exact Data.noConfusion (show Data.seq us.toArray _ = Data.dict es ep from d)
  have Kin : K.In (hidT s.heap H) := fun b o e => hidT_get (KX b o e) (Classical.byContradiction fun z => by
    have q := B.alone b z
    rw [q] at e z
    rw [B.away z] at e
    cases e)
  have md : Mod K mg (hidT s.heap H) := ⟨Kin, dictApart _ _ gns, ⟨mb, dictApart _ _ bns, boot⟩, nolim.elim fun mc q => ⟨mc, dictApart _ _ q.1, q.2⟩⟩
  have env : Env0 P w K mg (hidT s.heap H) callerA [] s H := ⟨rfl, md, fun _ _ e => of_hidT e, Nat.le_of_eq (hidT_size _ _), trivial, fun b q => absurd (show b ∈ ([] : List Addr) from q) (List.not_mem_nil), B.hok, .of_eq nogen⟩
  have run := (F _ Kin (dictApart _ _ gns)).run callerA [] s H ⟨[.ref a], []⟩ [.ref a] [.ref a] _ _ room rfl env (bd s (.ref a)) (.cons rfl .nil) (keeps H B.frozen B.script)
  refine codeAny_mono run fun r s' back => ?_
  match r, back with
  | .error e, back => exact (noex H e s' back).elim
  | .ok .next, back => exact back.elim
  | .ok .brk, back => exact back.elim
  | .ok .cont, back => exact back.elim
  | .ok (.ret u), ⟨v, H', os, bare, un, hok', rv, isT⟩ =>
    have isT' : v = .bl true := isT
    rw [isT'] at rv
    have eu : u = Value.bool true := rv
    refine ⟨by rw [eu], OldK.of_keep fun b o e => ?_, os, bare⟩
    rcases B.frozen b with q | ⟨ob, xs, q⟩
    · exact un.keep b o e q (fun z => absurd (show b ∈ ([] : List Addr) from z) (List.not_mem_nil)) (by simp)
    · have now := (hok' b _ (un.frzs b ob _ q)).1
      have was := (B.hok b _ q).1
      rw [was] at e
      cases e
      exact now
/-- a law whose defs the look accepts: its value is all that is left -/
theorem walkZ {l : PySem.W.OpenLaw} {n : Nat} {q : Program} {loose : List Str} {XP : (Str → Option Value) → Heap → Prop} {d : DefRec} (t : Txt) (shr : Nat → Bool) (wf depth steps f : Nat) (dd : DD) (x : Str)
    (hn : l.most = some n) (hn2 : n ≤ sizeLine) (hdf : d.params.defaults = []) (ok : t.ok = true) (hf : t.defs[f]? = some dd) (hname : dd.d.at_ = (d.name, none)) (hps : dd.N.take dd.md.ar = [x]) (har : dd.md.ar = 1) (hr : Room (depth + 30) callerA)
    (law : ∀ ns : List Int, ns.length ≤ n → ∃ st, (t.prog shr wf).cal depth f [.pv (.scr ns)] [] = some (.ok (.pv (.bl true)) st)) :
    PySem.W.WalkO q loose XP (hookZ steps t.fa t.fn t.ck).says l.row.toRowW d [] (fun f vs => PySem.call f vs) := by
  refine Att.attach_call hn hdf fun w s₀ s₁ mg mb fa o pm cd doc a vs ns Gd Y ho hd hcd hmg hobj hints hlen hg => ?_
  obtain ⟨K, KX, c⟩ := Y
  have Y : Says t K s₁.heap mg := ⟨KX, Gd.T.g, c.d, c.own, ok⟩
  have key := fun base => (defs_ok (P := l.prog) (w := w) (base := base) (shr := shr) (wf := wf) Y depth).1 f dd hf
  obtain ⟨fd, D⟩ := key s₁.heap
  have hm := Y.defAt hf
  have efa : fa = He.fAd K dd.d.at_ := by
    rw [hname] at hm ⊢
    have := hmg.symm.trans hm
    cases this
    rfl
  have hfn : ∀ base : Heap, K.In base → base.Ns mainGlobals mg → FnG l.prog w K mg base (L2N.CX l.prog w) (depth + 30) fa fd [x] (spOf (t.nm K) K ((t.prog shr wf).cal depth f) 1) := fun base _ _ => by
    obtain ⟨fd', D'⟩ := key base
    have e : fd' = fd := by
      obtain ⟨_, _, _, _, _, _, _, _, _, _, e1, l1, _⟩ := D.fun_.ex
      obtain ⟨_, _, _, _, _, _, _, _, _, _, e2, l2, _⟩ := D'.fun_.ex
      rw [l1] at l2
      cases l2
      rfl
    subst e
    rw [efa, ← hps, ← har]
    exact D'.ok
  refine law_run KX Gd.T.g Gd.T.b Gd.T.builtins Gd.T.nolimit hg hobj hints (Nat.le_trans hlen hn2) hr hfn (fun s u => ?_) (fun H hO hS => ?_) fun H e s' z => ?_
  · exact FunD.bindsA (ps := [x]) D.fun_ (fun kV doc pm an cdv ct us hl => by
      rw [← hps] at hl ⊢
      exact ((TxtOk.of ok).defs dd (List.mem_of_getElem? hf)).binds hl) s [u] rfl
  · obtain ⟨st, hst⟩ := law ns hlen
    refine ⟨rfl, H, [], [], [.pv (.scr ns)], _, ⟨Sub.refl H, rfl, List.nodup_nil, fun n a c e _ => by simp at e⟩, ?_, hst, ?_⟩
    · simp only [RLs, RL, RP]
      exact ⟨_, [], rfl, ⟨a, rfl, hS⟩, rfl⟩
    · intro F' ρ' H' v g h r
      simpa only [RL, RP] using r
  · obtain ⟨_, _, _, _, _, _, _, _, _, _, _, _, h⟩ := z
    exact h
end Z
end

section
/-! ZU: the laws' own draws. -/
namespace Z
def drawMD : MD := ⟨2, 5, [.iff (.boolop true [.cmp .eq (.idx (.var 0) (.lit (.int 2))) (.lit (.int 0)), .cmp .lt (.idx (.var 0) (.lit (.int 1))) (.bi .len [.idx (.var 0) (.lit (.int 0))])]) [.asg (.nm 3) (.bi .abs [.bi .int [.idx (.idx (.var 0) (.lit (.int 0))) (.idx (.var 0) (.lit (.int 1)))]]), .augI (.var 0) (.lit (.int 1)) .add (.lit (.int 1)), .iff (.cmp .ge (.var 3) (.bin .pow (.lit (.int 10)) (.lit (.int 18)))) [.asgI (.var 0) (.lit (.int 2)) (.var 3)] [.asgI (.var 0) (.lit (.int 3)) (.bin .mod (.bi .int [.bin .add (.bin .add (.bin .mul (.idx (.var 0) (.lit (.int 3))) (.lit (.int 48271))) (.bin .mul (.var 3) (.lit (.int 69621)))) (.idx (.var 0) (.lit (.int 1)))]) (.lit (.int 2147483647)))]] [], .iff (.cmp .gt (.idx (.var 0) (.lit (.int 2))) (.lit (.int 0))) [.asg (.nm 4) (.bin .mod (.bi .int [.idx (.var 0) (.lit (.int 2))]) (.var 1)), .asgI (.var 0) (.lit (.int 2)) (.bin .fdiv (.idx (.var 0) (.lit (.int 2))) (.var 1)), .ret (.var 4)] [], .asgI (.var 0) (.lit (.int 3)) (.bin .mod (.bi .int [.bin .add (.bin .mul (.idx (.var 0) (.lit (.int 3))) (.lit (.int 16807))) (.lit (.int 12345))]) (.lit (.int 2147483647))), .asg (.nm 2) (.bin .mod (.bi .int [.bin .add (.bin .mul (.idx (.var 0) (.lit (.int 3))) (.idx (.var 0) (.lit (.int 3)))) (.idx (.var 0) (.lit (.int 3)))]) (.lit (.int 2147483629))), .ret (.bin .mod (.bin .fdiv (.var 2) (.lit (.int 11))) (.var 1))]⟩
def feedC (ns : List Int) (i b s : Int) : Cell := .lst true [.pv (.lst (ns.map .int)), .pv (.int i), .pv (.int b), .pv (.int s)]
structure FeedOk (i₀ b₀ s₀ : Int) : Prop where
  i : 0 ≤ i₀
  b : 0 ≤ b₀
  s : 0 ≤ s₀
  t : s₀ < 2147483647
section
variable {ns : List Int} {i b s : Int} {r : Nat} {st : Store} {φ : Slots}
theorem gd0 (h : st[r]? = some (feedC ns i b s)) : getI (.ref r) (.pv (.int 0)) st = some (.ok (.pv (.lst (ns.map .int))) st) := by
  simp only [getI, h, feedC]; simp [atI, ixN]
theorem gd1 (h : st[r]? = some (feedC ns i b s)) : getI (.ref r) (.pv (.int 1)) st = some (.ok (.pv (.int i)) st) := by
  simp only [getI, h, feedC]; simp [atI, ixN]
theorem gd2 (h : st[r]? = some (feedC ns i b s)) : getI (.ref r) (.pv (.int 2)) st = some (.ok (.pv (.int b)) st) := by
  simp only [getI, h, feedC]; simp [atI, ixN]
theorem gd3 (h : st[r]? = some (feedC ns i b s)) : getI (.ref r) (.pv (.int 3)) st = some (.ok (.pv (.int s)) st) := by
  simp only [getI, h, feedC]; simp [atI, ixN]
theorem fs1 {v : Int} (h : st[r]? = some (feedC ns i b s)) : setI (.ref r) (.pv (.int 1)) (.pv (.int v)) st = some (st.set r (feedC ns v b s)) := by
  simp [setI, h, feedC, ixN]
theorem fs2 {v : Int} (h : st[r]? = some (feedC ns i b s)) : setI (.ref r) (.pv (.int 2)) (.pv (.int v)) st = some (st.set r (feedC ns i v s)) := by
  simp [setI, h, feedC, ixN]
theorem fs3 {v : Int} (h : st[r]? = some (feedC ns i b s)) : setI (.ref r) (.pv (.int 3)) (.pv (.int v)) st = some (st.set r (feedC ns i b v)) := by
  simp [setI, h, feedC, ixN]
theorem fset {c c' : Cell} (h : st[r]? = some c) : (st.set r c')[r]? = some c' := List.getElem?_set_self (List.getElem?_eq_some_iff.mp h).1
/-- the state behind the first branch -/
def takeI (ns : List Int) (i b s : Int) : Int × Int × Int := if b = 0 ∧ i < ns.length then
    (if 10 ^ 18 ≤ (if (ns[i.toNat]?).getD 0 < 0 then -(ns[i.toNat]?).getD 0 else (ns[i.toNat]?).getD 0) then (i + 1, (if (ns[i.toNat]?).getD 0 < 0 then -(ns[i.toNat]?).getD 0 else (ns[i.toNat]?).getD 0), s)
    else (i + 1, b, (s * 48271 + (if (ns[i.toNat]?).getD 0 < 0 then -(ns[i.toNat]?).getD 0 else (ns[i.toNat]?).getD 0) * 69621 + (i + 1)) % 2147483647))
  else (i, b, s)
/-- what is drawn, the state behind it -/
def drawI (ns : List Int) (i b s m : Int) : Int × Int × Int × Int :=
  if 0 < (takeI ns i b s).2.1 then ((takeI ns i b s).2.1 % m, (takeI ns i b s).1, (takeI ns i b s).2.1 / m, (takeI ns i b s).2.2)
  else ((((takeI ns i b s).2.2 * 16807 + 12345) % 2147483647 * (((takeI ns i b s).2.2 * 16807 + 12345) % 2147483647) + ((takeI ns i b s).2.2 * 16807 + 12345) % 2147483647) % 2147483629 / 11 % m, (takeI ns i b s).1, (takeI ns i b s).2.1, ((takeI ns i b s).2.2 * 16807 + 12345) % 2147483647)
/-- the first branch: a number of the script is taken -/
theorem draw_take {m : Int} (h : st[r]? = some (feedC ns i b s)) (o : FeedOk i b s) : ∃ φ' i' b' s', takeI ns i b s = (i', b', s') ∧ FeedOk i' b' s' ∧ φ'[0]? = some (some (.ref r)) ∧ φ'[1]? = some (some (.pv (.int m))) ∧ φ'.length = 5 ∧ ∀ S : Sem,
    exS S (drawMD.body.getD 0 .pass) [some (.ref r), some (.pv (.int m)), none, none, none] st = some (.nx φ' (st.set r (feedC ns i' b' s'))) := by
  obtain ⟨φ, hφ⟩ : ∃ φ : Slots, φ = [some (.ref r), some (.pv (.int m)), none, none, none] := ⟨_, rfl⟩
  have h0 : φ[0]? = some (some (.ref r)) := by rw [hφ]; rfl
  have same : st.set r (feedC ns i b s) = st := by
    apply List.ext_getElem?
    intro j
    by_cases hj : r = j
    · subst hj; rw [fset h, h]
    · rw [List.getElem?_set_ne hj]
  have test : ∀ S : Sem, evT S (.boolop true [.cmp .eq (.idx (.var 0) (.lit (.int 2))) (.lit (.int 0)), .cmp .lt (.idx (.var 0) (.lit (.int 1))) (.bi .len [.idx (.var 0) (.lit (.int 0))])]) φ st = some (.ok (decide (b = 0) && decide (i < ns.length)) st) := by
    intro S
    simp only [evT, evBT, evE, evEs, h0, gd0 h, gd1 h, gd2 h, R.bind, R.bt, T.bt, R.bs, Rs.bs, Rs.bind, lenB, lenL, peeks, peek, Option.map_some, doBI, okP, cmpT, doCmp, opEq, eqOk, dep, eqP, List.length_map]
    by_cases hb : b = 0
    · subst hb; simp [maxDep, gd0 h, gd1 h, peeks, peek, doBI, okP, doCmp]
    · simp [maxDep, hb]
  have body : ∀ S : Sem, exS S (drawMD.body.getD 0 .pass) φ st = T.bf φ (evT S (.boolop true [.cmp .eq (.idx (.var 0) (.lit (.int 2))) (.lit (.int 0)), .cmp .lt (.idx (.var 0) (.lit (.int 1))) (.bi .len [.idx (.var 0) (.lit (.int 0))])]) φ st) fun d st => if d then exSs S [.asg (.nm 3) (.bi .abs [.bi .int [.idx (.idx (.var 0) (.lit (.int 0))) (.idx (.var 0) (.lit (.int 1)))]]), .augI (.var 0) (.lit (.int 1)) .add (.lit (.int 1)), .iff (.cmp .ge (.var 3) (.bin .pow (.lit (.int 10)) (.lit (.int 18)))) [.asgI (.var 0) (.lit (.int 2)) (.var 3)] [.asgI (.var 0) (.lit (.int 3)) (.bin .mod (.bi .int [.bin .add (.bin .add (.bin .mul (.idx (.var 0) (.lit (.int 3))) (.lit (.int 48271))) (.bin .mul (.var 3) (.lit (.int 69621)))) (.idx (.var 0) (.lit (.int 1)))]) (.lit (.int 2147483647)))]] φ st else exSs S [] φ st := fun _ => rfl
  rw [← hφ]
  by_cases hd : b = 0 ∧ i < ns.length
  · obtain ⟨hb, hi⟩ := hd
    have e : (decide (b = 0) && decide (i < ns.length)) = true := by simp [hb, hi]
    have hin : i.toNat < ns.length := by have := o.i; omega
    obtain ⟨z, hz⟩ : ∃ z, ns[i.toNat]? = some z := ⟨_, List.getElem?_eq_getElem hin⟩
    have hat : atI (ns.map PV.int) i = some (.int z) := by
      unfold atI ixN
      rw [if_pos o.i, if_pos (by rw [List.length_map]; exact hi)]
      simp [hz]
    obtain ⟨c, hc⟩ : ∃ c : Int, c = if z < 0 then -z else z := ⟨_, rfl⟩
    have hc0 : 0 ≤ c := by rw [hc]; split <;> omega
    have e1 : ∀ S : Sem, exS S (.asg (.nm 3) (.bi .abs [.bi .int [.idx (.idx (.var 0) (.lit (.int 0))) (.idx (.var 0) (.lit (.int 1)))]])) φ st = some (.nx (φ.set 3 (some (.pv (.int c)))) st) := by
      intro S
      have gl : getI (.pv (.lst (ns.map .int))) (.pv (.int i)) st = some (.ok (.pv (.int z)) st) := by simp only [getI, doIdx, hat, okP]
      simp only [exS, evE, evEs, h0, gd0 h, gd1 h, gl, R.bind, R.bs, Rs.bs, Rs.bind, R.bf, okP, lenB, lenL, peeks, peek, Option.map_some, doBI, asgG, ← hc]
    have h0' : (φ.set 3 (some (.pv (.int c))))[0]? = some (some (.ref r)) := by rw [hφ]; rfl
    have h3' : (φ.set 3 (some (.pv (.int c))))[3]? = some (some (.pv (.int c))) := by rw [hφ]; rfl
    have e3 : ∀ S : Sem, exS S (.augI (.var 0) (.lit (.int 1)) .add (.lit (.int 1))) (φ.set 3 (some (.pv (.int c)))) st = some (.nx (φ.set 3 (some (.pv (.int c)))) (st.set r (feedC ns (i + 1) b s))) := by
      intro S
      have hg := gd1 h
      simp only [exS, evE, h0', R.bf, hg, augOp, peek, doAug, doBin, okP, fs1 h, Option.map_some]
    have hst1 : (st.set r (feedC ns (i + 1) b s))[r]? = some (feedC ns (i + 1) b s) := fset h
    have e4 : ∀ S : Sem, evT S (.cmp .ge (.var 3) (.bin .pow (.lit (.int 10)) (.lit (.int 18)))) (φ.set 3 (some (.pv (.int c)))) (st.set r (feedC ns (i + 1) b s)) = some (.ok (decide (10 ^ 18 ≤ c)) (st.set r (feedC ns (i + 1) b s))) := by
      intro S
      simp only [evT, evE, h3', R.bt, R.bind, bin, peek, doBin, powOk, okP, cmpT, doCmp, Option.map_some]
      simp
    have seq : ∀ (S : Sem) s1 ss φ st φ1 st1, exS S s1 φ st = some (.nx φ1 st1) → exSs S (s1 :: ss) φ st = exSs S ss φ1 st1 := fun S s1 ss φ st φ1 st1 e => by simp only [exSs, e]
    by_cases hge : (10 : Int) ^ 18 ≤ c
    · refine ⟨φ.set 3 (some (.pv (.int c))), i + 1, c, s, (by unfold takeI; rw [if_pos ⟨hb, hi⟩, hz, Option.getD_some, ← hc, if_pos hge]), ⟨by have := o.i; omega, hc0, o.s, o.t⟩, h0', by rw [hφ]; rfl, by rw [hφ]; rfl, fun S => ?_⟩
      rw [body S, test S, e]
      simp only [T.bf, if_true]
      rw [seq _ _ _ _ _ _ _ (e1 S), seq _ _ _ _ _ _ _ (e3 S)]
      simp only [exSs, exS, e4 S, T.bf, decide_eq_true hge, if_true]
      simp only [evE, h3', h0', R.bf, fs2 hst1, Option.map_some, List.set_set]
    · refine ⟨φ.set 3 (some (.pv (.int c))), i + 1, b, (s * 48271 + c * 69621 + (i + 1)) % 2147483647, (by unfold takeI; rw [if_pos ⟨hb, hi⟩, hz, Option.getD_some, ← hc, if_neg hge]), ⟨by have := o.i; omega, o.b, Int.emod_nonneg _ (by decide), Int.emod_lt_of_pos _ (by decide)⟩, h0', by rw [hφ]; rfl, by rw [hφ]; rfl, fun S => ?_⟩
      rw [body S, test S, e]
      simp only [T.bf, if_true]
      rw [seq _ _ _ _ _ _ _ (e1 S), seq _ _ _ _ _ _ _ (e3 S)]
      have m1 : mulOk s 48271 = true := by simp [mulOk]
      have m2 : mulOk c 69621 = true := by simp [mulOk]
      simp only [exSs, exS, e4 S, T.bf, decide_eq_false hge, Bool.false_eq_true, if_false]
      have ev : evE S (.bin .mod (.bi .int [.bin .add (.bin .add (.bin .mul (.idx (.var 0) (.lit (.int 3))) (.lit (.int 48271))) (.bin .mul (.var 3) (.lit (.int 69621)))) (.idx (.var 0) (.lit (.int 1)))]) (.lit (.int 2147483647))) (φ.set 3 (some (.pv (.int c)))) (st.set r (feedC ns (i + 1) b s)) = some (.ok (.pv (.int ((s * 48271 + c * 69621 + (i + 1)) % 2147483647))) (st.set r (feedC ns (i + 1) b s))) := by
        have g1 := gd1 hst1
        have g3 := gd3 hst1
        simp only [evE, evEs, h0', h3', R.bind, R.bs, Rs.bs, Rs.bind, g1, g3, bin, lenB, lenL, peek, peeks, doBin, m1, m2, if_true, okP, Option.map_some, doBI]
        simp
      rw [ev]
      simp only [R.bf, evE, h0', fs3 hst1, Option.map_some, List.set_set]
  · have e : (decide (b = 0) && decide (i < ns.length)) = false := by
      simp only [Bool.and_eq_false_iff, decide_eq_false_iff_not]
      by_cases hb : b = 0
      · exact .inr fun z => hd ⟨hb, z⟩
      · exact .inl hb
    refine ⟨φ, i, b, s, (by unfold takeI; rw [if_neg hd]), o, h0, by rw [hφ]; rfl, by rw [hφ]; rfl, fun S => ?_⟩
    rw [body S, test S, e]
    simp only [T.bf, Bool.false_eq_true, if_false, exSs, same]
theorem draw_ok {m : Int} (h : st[r]? = some (feedC ns i b s)) (o : FeedOk i b s) (hm : 0 < m) (hm2 : m < 1073741824) : ∃ v i' b' s', drawI ns i b s m = (v, i', b', s') ∧ FeedOk i' b' s' ∧ 0 ≤ v ∧ v < m ∧ ∀ S : Sem,
    drawMD.run S [.ref r, .pv (.int m)] st = some (.ok (.pv (.int v)) (st.set r (feedC ns i' b' s'))) := by
  obtain ⟨φ, i1, b1, s1, et, o1, h0, h1, hl, e1⟩ := draw_take (m := m) h o
  have hst : (st.set r (feedC ns i1 b1 s1))[r]? = some (feedC ns i1 b1 s1) := fset h
  have seq : ∀ (S : Sem) s1 ss φ st φ1 st1, exS S s1 φ st = some (.nx φ1 st1) → exSs S (s1 :: ss) φ st = exSs S ss φ1 st1 := fun S s1 ss φ st φ1 st1 e => by simp only [exSs, e]
  have run : ∀ S : Sem, drawMD.run S [.ref r, .pv (.int m)] st = endR (exSs S drawMD.body [some (.ref r), some (.pv (.int m)), none, none, none] st) := fun _ => rfl
  have body : drawMD.body = drawMD.body.getD 0 .pass :: drawMD.body.tail := rfl
  obtain ⟨st1, hst1⟩ : ∃ st1, st1 = st.set r (feedC ns i1 b1 s1) := ⟨_, rfl⟩
  rw [← hst1] at hst
  have g2 := gd2 hst
  have g3 := gd3 hst
  have t1 : ∀ S : Sem, evT S (.cmp .gt (.idx (.var 0) (.lit (.int 2))) (.lit (.int 0))) φ st1 = some (.ok (decide (0 < b1)) st1) := by
    intro S
    simp only [evT, evE, h0, R.bt, R.bind, g2, cmpT, peek, doCmp, Option.map_some]
  have dv : divOk m = true := by simp [divOk, hm, hm2]
  by_cases hb : 0 < b1
  · refine ⟨b1 % m, i1, b1 / m, s1, (by unfold drawI; rw [et]; simp only; rw [if_pos hb]), ⟨o1.i, Int.ediv_nonneg o1.b (by omega), o1.s, o1.t⟩, Int.emod_nonneg _ (by omega), Int.emod_lt_of_pos _ hm, fun S => ?_⟩
    rw [run S, body, seq _ _ _ _ _ _ _ (e1 S), ← hst1]
    have p0 : (φ.set 4 (some (.pv (.int (b1 % m)))))[0]? = some (some (.ref r)) := by rw [List.getElem?_set_ne (by decide)]; exact h0
    have p1 : (φ.set 4 (some (.pv (.int (b1 % m)))))[1]? = some (some (.pv (.int m))) := by rw [List.getElem?_set_ne (by decide)]; exact h1
    have p4 : (φ.set 4 (some (.pv (.int (b1 % m)))))[4]? = some (some (.pv (.int (b1 % m)))) := List.getElem?_set_self (by omega)
    show endR (exSs S (.iff (.cmp .gt (.idx (.var 0) (.lit (.int 2))) (.lit (.int 0))) [.asg (.nm 4) (.bin .mod (.bi .int [.idx (.var 0) (.lit (.int 2))]) (.var 1)), .asgI (.var 0) (.lit (.int 2)) (.bin .fdiv (.idx (.var 0) (.lit (.int 2))) (.var 1)), .ret (.var 4)] [] :: _) φ st1) = _
    simp only [exSs, exS, t1 S, T.bf, decide_eq_true hb, if_true]
    simp only [evE, evEs, h0, h1, g2, R.bind, R.bs, Rs.bs, Rs.bind, R.bf, lenB, lenL, peeks, peek, Option.map_some, doBI, okP, bin, doBin, hm, if_true, asgG]
    simp only [p0, p1, p4, g2, dv, if_true, okP, fs2 hst, Option.map_some, R.bf, endR]
    rw [hst1, List.set_set]
  · obtain ⟨s2, hs2⟩ : ∃ s2, s2 = (s1 * 16807 + 12345) % 2147483647 := ⟨_, rfl⟩
    have o2 : FeedOk i1 b1 s2 := ⟨o1.i, o1.b, by rw [hs2]; exact Int.emod_nonneg _ (by decide), by rw [hs2]; exact Int.emod_lt_of_pos _ (by decide)⟩
    refine ⟨(s2 * s2 + s2) % 2147483629 / 11 % m, i1, b1, s2, (by unfold drawI; rw [et]; simp only; rw [if_neg hb, hs2]), o2, Int.emod_nonneg _ (by omega), Int.emod_lt_of_pos _ hm, fun S => ?_⟩
    rw [run S, body, seq _ _ _ _ _ _ _ (e1 S), ← hst1]
    have m1 : mulOk s1 16807 = true := by simp [mulOk]
    have m2 : mulOk s2 s2 = true := by
      have h1 := o2.s
      have h2 := o2.t
      have a1 : decide (-(2 ^ 64 : Int) < s2) = true := decide_eq_true (by omega)
      have a2 : decide (s2 < (2 ^ 64 : Int)) = true := decide_eq_true (by omega)
      unfold mulOk
      rw [a1, a2]; rfl
    have hst2 : (st1.set r (feedC ns i1 b1 s2))[r]? = some (feedC ns i1 b1 s2) := fset hst
    have g3' := gd3 hst2
    have e2 : exS S (.asgI (.var 0) (.lit (.int 3)) (.bin .mod (.bi .int [.bin .add (.bin .mul (.idx (.var 0) (.lit (.int 3))) (.lit (.int 16807))) (.lit (.int 12345))]) (.lit (.int 2147483647)))) φ st1 = some (.nx φ (st1.set r (feedC ns i1 b1 s2))) := by
      have ev : evE S (.bin .mod (.bi .int [.bin .add (.bin .mul (.idx (.var 0) (.lit (.int 3))) (.lit (.int 16807))) (.lit (.int 12345))]) (.lit (.int 2147483647))) φ st1 = some (.ok (.pv (.int s2)) st1) := by
        simp only [evE, evEs, h0, g3, R.bind, R.bs, Rs.bs, Rs.bind, bin, lenB, lenL, peek, peeks, doBin, m1, if_true, okP, Option.map_some, doBI]
        rw [hs2]; simp
      simp only [exS, ev, R.bf]
      simp only [evE, h0, R.bf, fs3 hst, Option.map_some]
    have e3 : exS S (.asg (.nm 2) (.bin .mod (.bi .int [.bin .add (.bin .mul (.idx (.var 0) (.lit (.int 3))) (.idx (.var 0) (.lit (.int 3)))) (.idx (.var 0) (.lit (.int 3)))]) (.lit (.int 2147483629)))) φ (st1.set r (feedC ns i1 b1 s2)) = some (.nx (φ.set 2 (some (.pv (.int ((s2 * s2 + s2) % 2147483629))))) (st1.set r (feedC ns i1 b1 s2))) := by
      simp only [exS, evE, evEs, h0, g3', R.bind, R.bs, Rs.bs, Rs.bind, R.bf, bin, lenB, lenL, peek, peeks, doBin, m2, if_true, okP, Option.map_some, doBI, asgG]
      simp
    have p1 : (φ.set 2 (some (.pv (.int ((s2 * s2 + s2) % 2147483629)))))[1]? = some (some (.pv (.int m))) := by rw [List.getElem?_set_ne (by decide)]; exact h1
    have p2 : (φ.set 2 (some (.pv (.int ((s2 * s2 + s2) % 2147483629)))))[2]? = some (some (.pv (.int ((s2 * s2 + s2) % 2147483629)))) := List.getElem?_set_self (by omega)
    have dv11 : divOk 11 = true := by decide
    have e0 : exS S (.iff (.cmp .gt (.idx (.var 0) (.lit (.int 2))) (.lit (.int 0))) [.asg (.nm 4) (.bin .mod (.bi .int [.idx (.var 0) (.lit (.int 2))]) (.var 1)), .asgI (.var 0) (.lit (.int 2)) (.bin .fdiv (.idx (.var 0) (.lit (.int 2))) (.var 1)), .ret (.var 4)] []) φ st1 = some (.nx φ st1) := by
      simp only [exS, t1 S, T.bf, decide_eq_false hb, Bool.false_eq_true, if_false, exSs]
    show endR (exSs S (.iff _ _ _ :: .asgI _ _ _ :: .asg _ _ :: [.ret (.bin .mod (.bin .fdiv (.var 2) (.lit (.int 11))) (.var 1))]) φ st1) = _
    rw [seq _ _ _ _ _ _ _ e0, seq _ _ _ _ _ _ _ e2, seq _ _ _ _ _ _ _ e3]
    simp only [exSs, exS, evE, p1, p2, R.bind, R.bf, bin, peek, doBin, dv11, hm, if_true, okP, endR]
    rw [hst1, List.set_set]
/-! ### the feed as a value -/
structure Fd where
  ns : List Int
  i : Int
  b : Int
  s : Int
  ok : FeedOk i b s
def Fd.cell (F : Fd) : Cell := feedC F.ns F.i F.b F.s
theorem Fd.at0 (F : Fd) : ([F.cell] : Store)[0]? = some (feedC F.ns F.i F.b F.s) := rfl
/-- what is drawn, the feed behind it -/
def Fd.draw (F : Fd) (m : Int) : Int × Fd := if h : 0 < m ∧ m < 1073741824 then
    ((drawI F.ns F.i F.b F.s m).1, ⟨F.ns, (drawI F.ns F.i F.b F.s m).2.1, (drawI F.ns F.i F.b F.s m).2.2.1, (drawI F.ns F.i F.b F.s m).2.2.2, by
      obtain ⟨v, i, b, s, e, o, _⟩ := draw_ok F.at0 F.ok h.1 h.2
      rw [e]; exact o⟩)
  else (0, F)
theorem Fd.draw_spec (F : Fd) {m : Int} (h1 : 0 < m) (h2 : m < 1073741824) : 0 ≤ (F.draw m).1 ∧ (F.draw m).1 < m ∧ ∀ (S : Sem) (st : Store) (r : Nat), st[r]? = some F.cell → drawMD.run S [.ref r, .pv (.int m)] st = some (.ok (.pv (.int (F.draw m).1)) (st.set r (F.draw m).2.cell)) := by
  unfold Fd.draw
  rw [dif_pos ⟨h1, h2⟩]
  obtain ⟨v, i, b, s, e, o, k1, k2, _⟩ := draw_ok F.at0 F.ok h1 h2
  refine ⟨by show 0 ≤ (drawI F.ns F.i F.b F.s m).1; rw [e]; exact k1, by show (drawI F.ns F.i F.b F.s m).1 < m; rw [e]; exact k2, fun S st r hr => ?_⟩
  obtain ⟨v', i', b', s', e', o', k1', k2', run⟩ := draw_ok (m := m) hr F.ok h1 h2
  rw [run S]
  simp only [Fd.cell]
  rw [e']
end
end Z
end

section
/-! ZV: running defs in plain Lean. -/
namespace Z
/-! ### the semantics as rewriting; what stands behind is looked at last -/
/-- a type that names what it does not use: so simp leaves what stands behind alone -/
abbrev At {α : Type} (_ : α) (β : Type) : Type := β
def R.bK (k : LV → Store → Option ER) (a : At k (Option ER)) : Option ER := R.bind a k
def R.bsK (k : LV → Store → Option ERs) (a : At k (Option ER)) : Option ERs := R.bs a k
def R.btK (k : LV → Store → Option ET) (a : At k (Option ER)) : Option ET := R.bt a k
def R.bfK (φ : Slots) (k : LV → Store → Option FR) (a : At k (Option ER)) : Option FR := R.bf φ a k
def Rs.bK (k : List LV → Store → Option ER) (a : At k (Option ERs)) : Option ER := Rs.bind a k
def Rs.bsK (k : List LV → Store → Option ERs) (a : At k (Option ERs)) : Option ERs := Rs.bs a k
def Rs.bfK (φ : Slots) (k : List LV → Store → Option FR) (a : At k (Option ERs)) : Option FR := Rs.bf φ a k
def T.bK (k : Bool → Store → Option ER) (a : At k (Option ET)) : Option ER := T.bind a k
def T.btK (k : Bool → Store → Option ET) (a : At k (Option ET)) : Option ET := T.bt a k
def T.bfK (φ : Slots) (k : Bool → Store → Option FR) (a : At k (Option ET)) : Option FR := T.bf φ a k
def seqO (r : Option FR) (k : Slots → Store → Option FR) : Option FR := match r with
  | some (.nx φ st) => k φ st
  | r => r
def seqS (k : Slots → Store → Option FR) (a : At k (Option FR)) : Option FR := seqO a k
@[simp] theorem seqS_nx (φ : Slots) (st : Store) (k) : seqS (a := some (.nx φ st)) k = k φ st := Eq.trans rfl rfl
@[simp] theorem seqS_rt (v : LV) (st : Store) (k) : seqS (a := some (.rt v st)) k = some (.rt v st) := Eq.trans rfl rfl
@[simp] theorem seqS_ex (e : Ex) (φ : Slots) (st : Store) (k) : seqS (a := some (.ex e φ st)) k = some (.ex e φ st) := Eq.trans rfl rfl
@[simp] theorem seqS_bk (φ : Slots) (st : Store) (k) : seqS (a := some (.bk φ st)) k = some (.bk φ st) := Eq.trans rfl rfl
@[simp] theorem seqS_ct (φ : Slots) (st : Store) (k) : seqS (a := some (.ct φ st)) k = some (.ct φ st) := Eq.trans rfl rfl
@[simp] theorem seqS_ite (c : Prop) [Decidable c] (a b) (k) : seqS (a := if c then a else b) k = if c then seqS k a else seqS k b := by split <;> rfl
@[simp] theorem exSs_nil (S : Sem) (φ : Slots) (st : Store) : exSs S [] φ st = some (.nx φ st) := Eq.trans rfl rfl
@[simp] theorem exSs_cons (S : Sem) (s : MS) (ss : List MS) (φ : Slots) (st : Store) : exSs S (s :: ss) φ st = seqS (a := exS S s φ st) (exSs S ss) := Eq.trans rfl rfl
section
variable {φ : Slots} {st : Store} {v : LV} {vs : List LV} {e : Ex}
@[simp] theorem R.bind_ok (f) : R.bK (a := some (.ok v st)) f = f v st := Eq.trans rfl rfl
@[simp] theorem R.bind_ex (f) : R.bK (a := some (.ex e st)) f = some (.ex e st) := Eq.trans rfl rfl
@[simp] theorem R.bs_ok (f) : R.bsK (a := some (.ok v st)) f = f v st := Eq.trans rfl rfl
@[simp] theorem R.bs_ex (f) : R.bsK (a := some (.ex e st)) f = some (.ex e st) := Eq.trans rfl rfl
@[simp] theorem R.bt_ok (f) : R.btK (a := some (.ok v st)) f = f v st := Eq.trans rfl rfl
@[simp] theorem R.bt_ex (f) : R.btK (a := some (.ex e st)) f = some (.ex e st) := Eq.trans rfl rfl
@[simp] theorem R.bf_ok (f) : R.bfK φ (a := some (.ok v st)) f = f v st := Eq.trans rfl rfl
@[simp] theorem R.bf_ex (f) : R.bfK φ (a := some (.ex e st)) f = some (.ex e φ st) := Eq.trans rfl rfl
@[simp] theorem Rs.bind_ok (f) : Rs.bK (a := some (.ok vs st)) f = f vs st := Eq.trans rfl rfl
@[simp] theorem Rs.bind_ex (f) : Rs.bK (a := some (.ex e st)) f = some (.ex e st) := Eq.trans rfl rfl
@[simp] theorem Rs.bs_ok (f) : Rs.bsK (a := some (.ok vs st)) f = f vs st := Eq.trans rfl rfl
@[simp] theorem Rs.bs_ex (f) : Rs.bsK (a := some (.ex e st)) f = some (.ex e st) := Eq.trans rfl rfl
@[simp] theorem Rs.bf_ok (f) : Rs.bfK φ (a := some (.ok vs st)) f = f vs st := Eq.trans rfl rfl
@[simp] theorem Rs.bf_ex (f) : Rs.bfK φ (a := some (.ex e st)) f = some (.ex e φ st) := Eq.trans rfl rfl
@[simp] theorem T.bind_ok (b : Bool) (f) : T.bK (a := some (.ok b st)) f = f b st := Eq.trans rfl rfl
@[simp] theorem T.bind_ex (f) : T.bK (a := some (.ex e st)) f = some (.ex e st) := Eq.trans rfl rfl
@[simp] theorem T.bt_ok (b : Bool) (f) : T.btK (a := some (.ok b st)) f = f b st := Eq.trans rfl rfl
@[simp] theorem T.bt_ex (f) : T.btK (a := some (.ex e st)) f = some (.ex e st) := Eq.trans rfl rfl
@[simp] theorem T.bf_ok (b : Bool) (f) : T.bfK φ (a := some (.ok b st)) f = f b st := Eq.trans rfl rfl
@[simp] theorem T.bf_ex (f) : T.bfK φ (a := some (.ex e st)) f = some (.ex e φ st) := Eq.trans rfl rfl
/-- a list of arguments, evaluated -/
@[simp] theorem okP_some (p : PV) : okP st (some p) = some (.ok (.pv p) st) := Eq.trans rfl rfl
@[simp] theorem peek_pv (p : PV) : peek st (.pv p) = some p := Eq.trans rfl rfl
@[simp] theorem peeks_nil : peeks st [] = some [] := Eq.trans rfl rfl
@[simp] theorem peeks_pv (p : PV) (xs : List LV) : peeks st (.pv p :: xs) = (peeks st xs).map (p :: ·) := Eq.trans rfl rfl
@[simp] theorem truL_pv (p : PV) : truL (.pv p) st = tru p := Eq.trans rfl rfl
@[simp] theorem frz_pv (p : PV) : frz (.pv p) st = some (p, st) := Eq.trans rfl rfl
@[simp] theorem getI_pv (p i : PV) : getI (.pv p) (.pv i) st = okP st (doIdx p i) := Eq.trans rfl rfl
@[simp] theorem bin_pv (op : BO) (p q : PV) : bin op (.pv p) (.pv q) st = okP st (doBin op p q) := Eq.trans rfl rfl
@[simp] theorem cmp_pv (op : CO) (p q : PV) : cmp op (.pv p) (.pv q) st = (doCmp op p q).map fun c => .ok (.pv (.bl c)) st := Eq.trans rfl rfl
@[simp] theorem cmpT_pv (op : CO) (p q : PV) : cmpT op (.pv p) (.pv q) st = (doCmp op p q).map fun c => .ok c st := Eq.trans rfl rfl
@[simp] theorem augOp_pv (op : BO) (p q : PV) : augOp op (.pv p) (.pv q) st = okP st (doAug op p q) := Eq.trans rfl rfl
@[simp] theorem mkTup_nil : mkTup [] = .pv (.tup []) := Eq.trans rfl rfl
@[simp] theorem unpv_nil : unpv [] = some [] := Eq.trans rfl rfl
@[simp] theorem unpv_pv (p : PV) (xs : List LV) : unpv (.pv p :: xs) = (unpv xs).map (p :: ·) := Eq.trans rfl rfl
theorem mkTup_pv (ps : List PV) : mkTup (ps.map .pv) = .pv (.tup ps) := by unfold mkTup; rw [unpv_map]
@[simp] theorem mkTup1 (a : PV) : mkTup [.pv a] = .pv (.tup [a]) := Eq.trans rfl rfl
@[simp] theorem mkTup2 (a b : PV) : mkTup [.pv a, .pv b] = .pv (.tup [a, b]) := Eq.trans rfl rfl
@[simp] theorem mkTup3 (a b c : PV) : mkTup [.pv a, .pv b, .pv c] = .pv (.tup [a, b, c]) := Eq.trans rfl rfl
@[simp] theorem mkTup4 (a b c d : PV) : mkTup [.pv a, .pv b, .pv c, .pv d] = .pv (.tup [a, b, c, d]) := Eq.trans rfl rfl
@[simp] theorem mkTup5 (a b c d e : PV) : mkTup [.pv a, .pv b, .pv c, .pv d, .pv e] = .pv (.tup [a, b, c, d, e]) := Eq.trans rfl rfl
@[simp] theorem line1 : 1 ≤ line := by decide
@[simp] theorem line2 : 2 ≤ line := by decide
@[simp] theorem line3 : 3 ≤ line := by decide
@[simp] theorem line4 : 4 ≤ line := by decide
@[simp] theorem line5 : 5 ≤ line := by decide
@[simp] theorem line6 : 6 ≤ line := by decide
@[simp] theorem line7 : 7 ≤ line := by decide
@[simp] theorem line8 : 8 ≤ line := by decide
@[simp] theorem mkLst_nil : mkLst false [] st = some (.ok (.pv (.lst [])) st) := Eq.trans rfl rfl
theorem mkLst_pv {ps : List PV} (h : ps.length ≤ line) : mkLst false (ps.map .pv) st = some (.ok (.pv (.lst ps)) st) := by
  unfold mkLst
  rw [if_pos (by rw [List.length_map]; exact h), unpv_map]; rfl
@[simp] theorem mkLst1 (a : PV) : mkLst false [.pv a] st = some (.ok (.pv (.lst [a])) st) := Eq.trans rfl rfl
@[simp] theorem mkLst2 (a b : PV) : mkLst false [.pv a, .pv b] st = some (.ok (.pv (.lst [a, b])) st) := Eq.trans rfl rfl
@[simp] theorem mkLst3 (a b c : PV) : mkLst false [.pv a, .pv b, .pv c] st = some (.ok (.pv (.lst [a, b, c])) st) := Eq.trans rfl rfl
@[simp] theorem mkLst4 (a b c d : PV) : mkLst false [.pv a, .pv b, .pv c, .pv d] st = some (.ok (.pv (.lst [a, b, c, d])) st) := Eq.trans rfl rfl
@[simp] theorem mkLst5 (a b c d e : PV) : mkLst false [.pv a, .pv b, .pv c, .pv d, .pv e] st = some (.ok (.pv (.lst [a, b, c, d, e])) st) := Eq.trans rfl rfl
@[simp] theorem mkLst6 (a b c d e f : PV) : mkLst false [.pv a, .pv b, .pv c, .pv d, .pv e, .pv f] st = some (.ok (.pv (.lst [a, b, c, d, e, f])) st) := Eq.trans rfl rfl
@[simp] theorem endR_nx : endR (some (.nx φ st)) = some (.ok (.pv .non) st) := Eq.trans rfl rfl
@[simp] theorem endR_rt : endR (some (.rt v st)) = some (.ok v st) := Eq.trans rfl rfl
@[simp] theorem endR_ex : endR (some (.ex e φ st)) = some (.ex e st) := Eq.trans rfl rfl
@[simp] theorem endR_ite (c : Prop) [Decidable c] (a b) : endR (if c then a else b) = if c then endR a else endR b := by split <;> rfl
@[simp] theorem asgG_nm (i : Nat) : asgG (.nm i) v φ = some (φ.set i (some v)) := by simp only [asgG]
@[simp] theorem asgG_tpv (gs : List MG) (xs : List PV) : asgG (.tp gs) (.pv (.tup xs)) φ = asgGs gs (xs.map .pv) φ := by simp only [asgG]
@[simp] theorem asgG_tup (gs : List MG) (xs : List LV) : asgG (.tp gs) (.tup xs) φ = asgGs gs xs φ := by simp only [asgG]
@[simp] theorem asgG_lpv (gs : List MG) (xs : List PV) : asgG (.tp gs) (.pv (.lst xs)) φ = asgGs gs (xs.map .pv) φ := by simp only [asgG]
@[simp] theorem asgGs_nil : asgGs [] [] φ = some φ := by simp only [asgGs]
@[simp] theorem asgGs_cons (g : MG) (gs : List MG) (x : LV) (xs : List LV) : asgGs (g :: gs) (x :: xs) φ = (asgG g x φ).bind fun φ => asgGs gs xs φ := by
  rw [asgGs]
  cases asgG g x φ <;> rfl
end
/-- a turn of a loop, of a comprehension -/
def forStep (S : Sem) (g : MG) (a : List MS) : PV → Slots → Store → Option FR := fun x φ st => match asgG g (.pv x) φ with
  | some φ => exSs S a φ st
  | none => none
def lcStep (S : Sem) (elt : ME) (tg : MG) (ifs : List MT) (own : List Nat) (φ : Slots) : PV → Store → Option ERs := fun x st => match asgG tg (.pv x) (wipeL φ own) with
  | some φ1 => evIf S ifs φ1 st fun st => R.bsK (a := evE S elt φ1 st) fun y st => some (.ok [y] st)
  | none => none
/-- a loop, a comprehension over what is given -/
def forV (ik : IK) (vs : List LV) (step : PV → Slots → Store → Option FR) (φ : Slots) (st : Store) : Option FR := match unpv vs with
  | some ps => match items ik ps with
    | some xs => forLoop step xs φ st
    | none => none
  | none => none
def lcV (live : Bool) (ik : IK) (vs : List LV) (step : PV → Store → Option ERs) (st : Store) : Option ER := match unpv vs with
  | some ps => match items ik ps with
    | some xs => match lcLoop step xs st with
      | some (vs, st) => mkLst live vs st
      | none => none
    | none => none
  | none => none
theorem forV_of {ik : IK} {ps xs : List PV} (h : items ik ps = some xs) (step) (φ : Slots) (st : Store) : forV ik (ps.map .pv) step φ st = forLoop step xs φ st := by
  unfold forV
  rw [unpv_map]
  simp only [h]
theorem lcV_of {live : Bool} {ik : IK} {ps xs : List PV} {step} {st st1 : Store} {vs : List LV} (h : items ik ps = some xs) (hl : lcLoop step xs st = some (vs, st1)) : lcV live ik (ps.map .pv) step st = mkLst live vs st1 := by
  unfold lcV
  rw [unpv_map]
  simp only [h, hl]
theorem lcLoop_pure {step : PV → Store → Option ERs} {f : PV → List LV} {st : Store} : ∀ {xs : List PV}, (∀ x ∈ xs, step x st = some (.ok (f x) st)) → lcLoop step xs st = some (xs.flatMap f, st)
  | [], _ => rfl
  | x :: xs, h => by
    unfold lcLoop
    rw [h x (by simp)]
    simp only [noX]
    rw [lcLoop_pure fun y hy => h y (by simp [hy])]
    simp
section
variable (S : Sem) (φ : Slots) (st : Store)
@[simp] theorem evE_var (i : Nat) : evE S (.var i) φ st = match φ[i]? with
    | some (some (.exn _)) => none
    | some (some v) => some (.ok v st)
    | _ => none := Eq.trans rfl rfl
@[simp] theorem evE_lit (p : PV) : evE S (.lit p) φ st = some (.ok (.pv p) st) := Eq.trans rfl rfl
@[simp] theorem evE_glb (g : Nat) : evE S (.glb g) φ st = okP st (S.glb g) := Eq.trans rfl rfl
@[simp] theorem evE_tup (es) : evE S (.tup es) φ st = Rs.bK (a := evEs S es φ st) fun vs st => if vs.length ≤ line then some (.ok (mkTup vs) st) else none := Eq.trans rfl rfl
@[simp] theorem evE_lst (live) (es) : evE S (.lst live es) φ st = Rs.bK (a := evEs S es φ st) fun vs st => mkLst live vs st := Eq.trans rfl rfl
@[simp] theorem evE_dnew (t) : evE S (.dnew t) φ st = some (.ok (.ref st.length) (st ++ [if t then .dt true [] else .dk true []])) := Eq.trans rfl rfl
@[simp] theorem evE_bin (op a b) : evE S (.bin op a b) φ st = R.bK (a := evE S a φ st) fun x st => R.bK (a := evE S b φ st) fun y st => Z.bin op x y st := Eq.trans rfl rfl
@[simp] theorem evE_cmp (op a b) : evE S (.cmp op a b) φ st = R.bK (a := evE S a φ st) fun x st => R.bK (a := evE S b φ st) fun y st => Z.cmp op x y st := Eq.trans rfl rfl
@[simp] theorem evE_boolop (c es) : evE S (.boolop c es) φ st = evB S c es φ st := Eq.trans rfl rfl
@[simp] theorem evE_not (a) : evE S (.not a) φ st = R.bK (a := evE S a φ st) fun x st => match truL x st with
    | some b => some (.ok (.pv (.bl (!b))) st)
    | none => none := Eq.trans rfl rfl
@[simp] theorem evE_neg (a) : evE S (.neg a) φ st = R.bK (a := evE S a φ st) fun x st => match x with
    | .pv (.int i) => some (.ok (.pv (.int (-i))) st)
    | _ => none := Eq.trans rfl rfl
@[simp] theorem evE_ite (c a b) : evE S (.ite c a b) φ st = T.bK (a := evT S c φ st) fun d st => if d then evE S a φ st else evE S b φ st := Eq.trans rfl rfl
@[simp] theorem evE_idx (a i) : evE S (.idx a i) φ st = R.bK (a := evE S a φ st) fun x st => R.bK (a := evE S i φ st) fun y st => getI x y st := Eq.trans rfl rfl
@[simp] theorem evE_slc (a l lo h hi) : evE S (.slc a l lo h hi) φ st = R.bK (a := evE S a φ st) fun x st => R.bK (a := if l then evE S lo φ st else some (.ok (.pv .non) st)) fun lv st => match optL l lv with
      | some lo => R.bK (a := if h then evE S hi φ st else some (.ok (.pv .non) st)) fun hv st => match optL h hv, peek st x with
        | some hi, some x => okP st (doSlc x lo hi)
        | _, _ => none
      | none => none := Eq.trans rfl rfl
@[simp] theorem evE_rev (a) : evE S (.rev a) φ st = R.bK (a := evE S a φ st) fun x st => match x with
    | .pv (.str s) => if s.length ≤ 2 then some (.ok (.pv (.str s.reverse)) st) else none
    | _ => none := Eq.trans rfl rfl
@[simp] theorem evE_isn (neg a) : evE S (.isn neg a) φ st = R.bK (a := evE S a φ st) fun x st => match x with
    | .pv .non => some (.ok (.pv (.bl (!neg))) st)
    | _ => some (.ok (.pv (.bl neg)) st) := Eq.trans rfl rfl
@[simp] theorem evE_isi (t a) : evE S (.isi t a) φ st = R.bK (a := evE S a φ st) fun x st => match peek st x with
    | some x => (isTy t x).map fun b => .ok (.pv (.bl b)) st
    | none => none := Eq.trans rfl rfl
@[simp] theorem evE_bi (b es) : evE S (.bi b es) φ st = Rs.bK (a := evEs S es φ st) fun vs st => match lenB b vs st with
    | some n => some (.ok (.pv (.int (n : Int))) st)
    | none => match peeks st vs with
      | some ps => okP st (doBI b ps)
      | none => none := Eq.trans rfl rfl
@[simp] theorem lenB_len (v : LV) : lenB .len [v] st = lenL v st := Eq.trans rfl rfl
@[simp] theorem lenL_pv (p : PV) : lenL (.pv p) st = none := Eq.trans rfl rfl
@[simp] theorem lenB_abs (vs) : lenB .abs vs st = none := Eq.trans rfl rfl
@[simp] theorem lenB_int (vs) : lenB .int vs st = none := Eq.trans rfl rfl
@[simp] theorem lenB_list (vs) : lenB .list vs st = none := Eq.trans rfl rfl
@[simp] theorem lenB_sum (vs) : lenB .sum vs st = none := Eq.trans rfl rfl
@[simp] theorem lenB_all (vs) : lenB .all vs st = none := Eq.trans rfl rfl
@[simp] theorem lenB_any (vs) : lenB .any vs st = none := Eq.trans rfl rfl
@[simp] theorem lenB_repr (vs) : lenB .repr vs st = none := Eq.trans rfl rfl
@[simp] theorem evE_bm (m r es) : evE S (.bm m r es) φ st = R.bK (a := evE S r φ st) fun x st => if bmOk m x st then Rs.bK (a := evEs S es φ st) fun vs st => doBM m x vs st else none := Eq.trans rfl rfl
@[simp] theorem evE_call (f es) : evE S (.call f es) φ st = Rs.bK (a := evEs S es φ st) fun vs st => S.call f vs st := Eq.trans rfl rfl
@[simp] theorem evE_lc (live elt tg ik src ifs own) : evE S (.lc live elt tg ik src ifs own) φ st = Rs.bK (a := evEs S src φ st) fun vs st => lcV live ik vs (lcStep S elt tg ifs own φ) st := Eq.trans rfl rfl
@[simp] theorem evE_frz (a) : evE S (.frz a) φ st = R.bK (a := evE S a φ st) fun x st => (frz x st).map fun p => .ok (.pv p.1) p.2 := Eq.trans rfl rfl
@[simp] theorem evE_fld (C a f) : evE S (.fld C a f) φ st = R.bK (a := evE S a φ st) fun x st => if isIns C S.nf x st then getF x f st else none := Eq.trans rfl rfl
@[simp] theorem evE_mcall (C f a es) : evE S (.mcall C f a es) φ st = R.bK (a := evE S a φ st) fun x st => if isIns C S.nf x st then Rs.bK (a := evEs S es φ st) fun vs st => S.call f (x :: vs) st else none := Eq.trans rfl rfl
@[simp] theorem evE_new (C f es) : evE S (.new C f es) φ st = Rs.bK (a := evEs S es φ st) fun vs st => S.make C f vs st := Eq.trans rfl rfl
@[simp] theorem evE_xfld (i f) : evE S (.xfld i f) φ st = match φ[i]? with
    | some (some (.exn e)) => match S.xin e.cls with
      | some nf => if nf.2.any fun q => q.1 == f then okP st (look f e.fs) else none
      | none => none
    | _ => none := Eq.trans rfl rfl
@[simp] theorem evE_xisi (i C) : evE S (.xisi i C) φ st = match φ[i]? with
    | some (some (.exn e)) => match S.xin e.cls with
      | some _ => some (.ok (.pv (.bl (S.sub e.cls C))) st)
      | none => none
    | _ => none := Eq.trans rfl rfl
@[simp] theorem evEs_nil : evEs S [] φ st = some (.ok [] st) := Eq.trans rfl rfl
@[simp] theorem evEs_cons (e es) : evEs S (e :: es) φ st = R.bsK (a := evE S e φ st) fun v st => Rs.bsK (a := evEs S es φ st) fun vs st => some (.ok (v :: vs) st) := Eq.trans rfl rfl
@[simp] theorem evT_boolop (c es) : evT S (.boolop c es) φ st = evBT S c es φ st := Eq.trans rfl rfl
@[simp] theorem evT_not (t) : evT S (.not t) φ st = T.btK (a := evT S t φ st) fun b st => some (.ok (!b) st) := Eq.trans rfl rfl
@[simp] theorem evT_val (e) : evT S (.val e) φ st = R.btK (a := evE S e φ st) fun v st => (truL v st).map fun b => .ok b st := Eq.trans rfl rfl
@[simp] theorem evT_cmp (op a b) : evT S (.cmp op a b) φ st = R.btK (a := evE S a φ st) fun x st => R.btK (a := evE S b φ st) fun y st => cmpT op x y st := Eq.trans rfl rfl
@[simp] theorem evT_isn (neg a) : evT S (.isn neg a) φ st = R.btK (a := evE S a φ st) fun x st => match x with
    | .pv .non => some (.ok (!neg) st)
    | _ => some (.ok neg st) := Eq.trans rfl rfl
@[simp] theorem evB_one (c e) : evB S c [e] φ st = evE S e φ st := Eq.trans rfl rfl
@[simp] theorem evB_cons (c e e' es) : evB S c (e :: e' :: es) φ st = R.bK (a := evE S e φ st) fun v st => match truL v st with
    | some b => if b == c then evB S c (e' :: es) φ st else some (.ok v st)
    | none => none := Eq.trans rfl rfl
@[simp] theorem evBT_one (c e) : evBT S c [e] φ st = evT S e φ st := Eq.trans rfl rfl
@[simp] theorem evBT_cons (c e e' es) : evBT S c (e :: e' :: es) φ st = T.btK (a := evT S e φ st) fun b st => if b == c then evBT S c (e' :: es) φ st else some (.ok b st) := Eq.trans rfl rfl
@[simp] theorem evIf_nil (k) : evIf S [] φ st k = k st := Eq.trans rfl rfl
@[simp] theorem evIf_cons (c cs k) : evIf S (c :: cs) φ st k = match evT S c φ st with
    | some (.ok true st) => k st
    | some (.ok false st) => some (.ok [] st)
    | some (.ex e st) => some (.ex e st)
    | none => none := Eq.trans rfl rfl
@[simp] theorem exS_ex (e) : exS S (.ex e) φ st = R.bfK φ (a := evE S e φ st) fun _ st => some (.nx φ st) := Eq.trans rfl rfl
@[simp] theorem exS_asg (g e) : exS S (.asg g e) φ st = R.bfK φ (a := evE S e φ st) fun v st => (asgG g v φ).map fun φ => .nx φ st := Eq.trans rfl rfl
@[simp] theorem exS_asgI (a i e) : exS S (.asgI a i e) φ st = R.bfK φ (a := evE S e φ st) fun v st => R.bfK φ (a := evE S a φ st) fun x st => R.bfK φ (a := evE S i φ st) fun y st => (setI x y v st).map fun st => .nx φ st := Eq.trans rfl rfl
@[simp] theorem exS_aug (i op e) : exS S (.aug i op e) φ st = match φ[i]? with
    | some (some x) => R.bfK φ (a := evE S e φ st) fun y st => R.bfK φ (a := augOp op x y st) fun z st => some (.nx (φ.set i (some z)) st)
    | _ => none := Eq.trans rfl rfl
@[simp] theorem exS_augI (a i op e) : exS S (.augI a i op e) φ st = R.bfK φ (a := evE S a φ st) fun x st => R.bfK φ (a := evE S i φ st) fun y st => R.bfK φ (a := getI x y st) fun v st => R.bfK φ (a := evE S e φ st) fun w st =>
      R.bfK φ (a := augOp op v w st) fun z st => (setI x y z st).map fun st => .nx φ st := Eq.trans rfl rfl
@[simp] theorem exS_iff (c a b) : exS S (.iff c a b) φ st = T.bfK φ (a := evT S c φ st) fun d st => if d then exSs S a φ st else exSs S b φ st := Eq.trans rfl rfl
@[simp] theorem exS_whl (c a) : exS S (.whl c a) φ st = whLoop (evT S c) (exSs S a) S.wf φ st := Eq.trans rfl rfl
@[simp] theorem exS_for (g ik src a) : exS S (.for_ g ik src a) φ st = Rs.bfK φ (a := evEs S src φ st) fun vs st => forV ik vs (forStep S g a) φ st := Eq.trans rfl rfl
@[simp] theorem exS_ret (e) : exS S (.ret e) φ st = R.bfK φ (a := evE S e φ st) fun v st => some (.rt v st) := Eq.trans rfl rfl
@[simp] theorem exS_retN : exS S .retN φ st = some (.rt (.pv .non) st) := Eq.trans rfl rfl
@[simp] theorem exS_fset (C a f e) : exS S (.fset C a f e) φ st = R.bfK φ (a := evE S e φ st) fun v st => R.bfK φ (a := evE S a φ st) fun x st => if isIns C S.nf x st then (setFl x f v st).map fun st => .nx φ st else none := Eq.trans rfl rfl
@[simp] theorem exS_faug (C a f op e) : exS S (.faug C a f op e) φ st = R.bfK φ (a := evE S a φ st) fun x st => if isIns C S.nf x st then R.bfK φ (a := getF x f st) fun v st => R.bfK φ (a := evE S e φ st) fun w st =>
      R.bfK φ (a := augOp op v w st) fun z st => if isIns C S.nf x st then (setFl x f z st).map fun st => .nx φ st else none
    else none := Eq.trans rfl rfl
@[simp] theorem exS_raise (C es) : exS S (.raise C es) φ st = Rs.bfK φ (a := evEs S es φ st) fun vs st => match S.xin C, unpv vs with
    | some (n, fl), some ps => if ps.length = n then (extP ps [] fl).map fun fs => .ex ⟨C, fs⟩ φ st else none
    | _, _ => none := Eq.trans rfl rfl
@[simp] theorem exS_try (body C slot suite) : exS S (.tryE body C slot suite) φ st = match exSs S body φ st with
    | some (.ex e φ1 st1) => if (S.xin e.cls).isNone then none else if S.sub e.cls C then unslot slot (exSs S suite (match slot with
        | some i => φ1.set i (some (.exn e))
        | none => φ1) st1) else some (.ex e φ1 st1)
    | r => r := Eq.trans rfl rfl
@[simp] theorem exS_brk : exS S .brk φ st = some (.bk φ st) := Eq.trans rfl rfl
@[simp] theorem exS_cnt : exS S .cnt φ st = some (.ct φ st) := Eq.trans rfl rfl
@[simp] theorem exS_pass : exS S .pass φ st = some (.nx φ st) := Eq.trans rfl rfl
end
section
variable {S : Sem} {f : Nat} {st st1 : Store}
theorem call_pv {ps : List PV} {p : PV} (hs : S.shr f = false) (h : S.cal f (ps.map .pv) [] = some (.ok (.pv p) st1)) : S.call f (ps.map .pv) st = some (.ok (.pv p) st) := by
  unfold Sem.call
  rw [hs, unpv_map]
  simp only [h, frz, Option.map_some]
theorem call_ex {ps : List PV} {e : Ex} (hs : S.shr f = false) (h : S.cal f (ps.map .pv) [] = some (.ex e st1)) : S.call f (ps.map .pv) st = some (.ex e st) := by
  unfold Sem.call
  rw [hs, unpv_map]
  simp only [h]
end
section
variable {P : Prog} {n f : Nat} {st st1 : Store}
/-- one argument, two, three: trees -/
theorem call1 {a p : PV} (hs : P.shr f = false) (h : P.cal n f [.pv a] [] = some (.ok (.pv p) st1)) : (P.sem n).call f [.pv a] st = some (.ok (.pv p) st) := call_pv (S := P.sem n) (ps := [a]) hs h
theorem call2 {a b p : PV} (hs : P.shr f = false) (h : P.cal n f [.pv a, .pv b] [] = some (.ok (.pv p) st1)) : (P.sem n).call f [.pv a, .pv b] st = some (.ok (.pv p) st) := call_pv (S := P.sem n) (ps := [a, b]) hs h
theorem call3 {a b c p : PV} (hs : P.shr f = false) (h : P.cal n f [.pv a, .pv b, .pv c] [] = some (.ok (.pv p) st1)) : (P.sem n).call f [.pv a, .pv b, .pv c] st = some (.ok (.pv p) st) := call_pv (S := P.sem n) (ps := [a, b, c]) hs h
theorem callx1 {a : PV} {e : Ex} (hs : P.shr f = false) (h : P.cal n f [.pv a] [] = some (.ex e st1)) : (P.sem n).call f [.pv a] st = some (.ex e st) := call_ex (S := P.sem n) (ps := [a]) hs h
theorem callx2 {a b : PV} {e : Ex} (hs : P.shr f = false) (h : P.cal n f [.pv a, .pv b] [] = some (.ex e st1)) : (P.sem n).call f [.pv a, .pv b] st = some (.ex e st) := call_ex (S := P.sem n) (ps := [a, b]) hs h
theorem callx3 {a b c : PV} {e : Ex} (hs : P.shr f = false) (h : P.cal n f [.pv a, .pv b, .pv c] [] = some (.ex e st1)) : (P.sem n).call f [.pv a, .pv b, .pv c] st = some (.ex e st) := call_ex (S := P.sem n) (ps := [a, b, c]) hs h
end
theorem cal_eq (P : Prog) (n f : Nat) (d : MD) (vs : List LV) (st : Store) (h : P.defs[f]? = some d) (hl : vs.length = d.ar) : P.cal (n + 1) f vs st = endR (exSs (P.sem n) d.body (vs.map some ++ List.replicate (d.nn - d.ar) none) st) := by
  rw [cal_succ h]
  unfold MD.run
  rw [if_pos hl]
end Z
end

section
/-! ZW: plain facts about trees, loops, comprehensions. -/
namespace Z
mutual
theorem eqP_refl : ∀ p : PV, eqOk p = true → eqP p p = true
  | .non, _ => rfl
  | .bl b, _ => by simp [eqP]
  | .int i, _ => by simp [eqP]
  | .str s, _ => by simp [eqP]
  | .tup xs, h => by simp only [eqP]; exact eqPs_refl xs (by simpa [eqOk] using h)
  | .lst xs, h => by simp only [eqP]; exact eqPs_refl xs (by simpa [eqOk] using h)
  | .dk _, h => by simp [eqOk] at h
  | .dt _, h => by simp [eqOk] at h
  | .scr _, h => by simp [eqOk] at h
theorem eqPs_refl : ∀ ps : List PV, eqOks ps = true → eqPs ps ps = true
  | [], _ => rfl
  | x :: xs, h => by
    simp only [eqOks, Bool.and_eq_true] at h
    simp only [eqPs, eqP_refl x h.1, eqPs_refl xs h.2, Bool.and_self]
end
theorem opEq_self {p : PV} (h : eqOk p = true) (hd : dep p ≤ maxDep) : opEq p p = some true := by
  unfold opEq
  rw [h, eqP_refl p h, Nat.min_self, decide_eq_true hd]; rfl
theorem ne_self {p : PV} (h : eqOk p = true) (hd : dep p ≤ maxDep) : doCmp .ne p p = some false := by
  simp only [doCmp, opEq_self h hd, Option.map_some, Bool.not_true]
theorem eq_self {p : PV} (h : eqOk p = true) (hd : dep p ≤ maxDep) : doCmp .eq p p = some true := by
  simp only [doCmp, opEq_self h hd]
theorem opEq_str (a b : Sg) : opEq (.str a) (.str b) = some (decide (a = b)) := by
  simp only [opEq, eqOk, dep, eqP, Bool.and_self, Nat.min_self, Nat.zero_le, decide_true, Bool.and_true, if_true]
  congr 1
  exact Bool.eq_iff_iff.mpr (by simp)
theorem opEq_int (a b : Int) : opEq (.int a) (.int b) = some (decide (a = b)) := by
  simp only [opEq, eqOk, dep, eqP, Bool.and_self, Nat.min_self, Nat.zero_le, decide_true, Bool.and_true, if_true]
  congr 1
@[simp] theorem eq_str (a b : Sg) : doCmp .eq (.str a) (.str b) = some (decide (a = b)) := opEq_str a b
@[simp] theorem ne_str (a b : Sg) : doCmp .ne (.str a) (.str b) = some (!decide (a = b)) := by simp only [doCmp, opEq_str, Option.map_some]
@[simp] theorem eq_int (a b : Int) : doCmp .eq (.int a) (.int b) = some (decide (a = b)) := opEq_int a b
@[simp] theorem ne_int (a b : Int) : doCmp .ne (.int a) (.int b) = some (!decide (a = b)) := by simp only [doCmp, opEq_int, Option.map_some]
@[simp] theorem lt_int (a b : Int) : doCmp .lt (.int a) (.int b) = some (decide (a < b)) := rfl
@[simp] theorem le_int (a b : Int) : doCmp .le (.int a) (.int b) = some (decide (a ≤ b)) := rfl
@[simp] theorem gt_int (a b : Int) : doCmp .gt (.int a) (.int b) = some (decide (b < a)) := rfl
@[simp] theorem ge_int (a b : Int) : doCmp .ge (.int a) (.int b) = some (decide (b ≤ a)) := rfl
@[simp] theorem eq_bl (a b : Bool) : doCmp .eq (.bl a) (.bl b) = some (a == b) := rfl
@[simp] theorem ne_bl (a b : Bool) : doCmp .ne (.bl a) (.bl b) = some (!(a == b)) := rfl
@[simp] theorem add_int (a b : Int) : doBin .add (.int a) (.int b) = some (.int (a + b)) := rfl
@[simp] theorem sub_int (a b : Int) : doBin .sub (.int a) (.int b) = some (.int (a - b)) := rfl
@[simp] theorem tru_bl (b : Bool) : tru (.bl b) = some b := rfl
@[simp] theorem tru_non : tru .non = some false := rfl
@[simp] theorem len_lst (xs : List PV) : doBI .len [.lst xs] = some (.int xs.length) := rfl
@[simp] theorem len_tup (xs : List PV) : doBI .len [.tup xs] = some (.int xs.length) := rfl
theorem len_str {s : Sg} (h : s.length ≤ line) : doBI .len [.str s] = some (.int s.length) := by simp only [doBI, if_pos h]
theorem cat_str {a b : Sg} (h : a.length + b.length ≤ line) : doBin .add (.str a) (.str b) = some (.str (a ++ b)) := by simp only [doBin, if_pos h]
theorem cat_lst {a b : List PV} (h : a.length + b.length ≤ line) : doBin .add (.lst a) (.lst b) = some (.lst (a ++ b)) := by simp only [doBin, if_pos h]
/-! ### subscripts, slices -/
theorem atI_nat {α : Type} {xs : List α} {k : Nat} (h : k < xs.length) : atI xs (k : Int) = xs[k]? := by
  have h0 : (0 : Int) ≤ k := Int.natCast_nonneg k
  have h1 : (k : Int) < xs.length := Int.ofNat_lt.mpr h
  simp only [atI, ixN, if_pos h0, if_pos h1, Int.toNat_natCast]
@[simp] theorem atI_zero {α : Type} (x : α) (xs : List α) : atI (x :: xs) 0 = some x := by
  have := atI_nat (xs := x :: xs) (k := 0) (by simp)
  simpa using this
@[simp] theorem atI_one {α : Type} (x y : α) (xs : List α) : atI (x :: y :: xs) 1 = some y := by
  have := atI_nat (xs := x :: y :: xs) (k := 1) (by simp)
  simpa using this
@[simp] theorem atI_two {α : Type} (x y z : α) (xs : List α) : atI (x :: y :: z :: xs) 2 = some z := by
  have := atI_nat (xs := x :: y :: z :: xs) (k := 2) (by simp)
  simpa using this
theorem atI_last {α : Type} (xs : List α) (x : α) : atI (xs ++ [x]) (-1) = some x := by
  unfold atI ixN
  have h0 : ¬ (0 : Int) ≤ -1 := by decide
  have h1 : -(((xs ++ [x]).length : Nat) : Int) ≤ -1 := by simp; omega
  rw [if_neg h0, if_pos h1]
  have h2 : (-1 + (((xs ++ [x]).length : Nat) : Int)).toNat = xs.length := by simp; omega
  simp only [h2]
  simp
@[simp] theorem idx_lst (xs : List PV) (i : Int) : doIdx (.lst xs) (.int i) = atI xs i := rfl
@[simp] theorem idx_tup (xs : List PV) (i : Int) : doIdx (.tup xs) (.int i) = atI xs i := rfl
theorem idx_str {s : Sg} {k : Nat} (hl : s.length ≤ line) (h : k < s.length) : doIdx (.str s) (.int (k : Int)) = (s[k]?).map fun c => .str [c] := by
  simp only [doIdx, if_pos hl, atI_nat h]
theorem cut_to {α : Type} (xs : List α) {k : Nat} (h : k ≤ xs.length) : cut xs none (some (k : Int)) = xs.take k := by
  unfold cut sIx
  have h0 : ¬ ((k : Int) < 0) := by omega
  simp [if_neg h0, Nat.min_eq_left h]
theorem cut_from {α : Type} (xs : List α) {k : Nat} (h : k ≤ xs.length) : cut xs (some (k : Int)) none = xs.drop k := by
  unfold cut sIx
  have h0 : ¬ ((k : Int) < 0) := by omega
  simp only [if_neg h0, Int.toNat_natCast, Nat.min_eq_left h]
  rw [List.take_of_length_le]
  simp
theorem cut_from_big {α : Type} (xs : List α) {k : Nat} (h : xs.length ≤ k) : cut xs (some (k : Int)) none = [] := by
  unfold cut sIx
  have h0 : ¬ ((k : Int) < 0) := by omega
  simp [if_neg h0, Nat.min_eq_right h]
/-! ### loops -/
theorem upto_length (lo : Int) (n : Nat) : (upto lo n).length = n := by
  induction n generalizing lo with
  | zero => rfl
  | succ n ih => simp [upto, ih]
@[simp] theorem forLoop_nil (step) (φ : Slots) (st : Store) : forLoop step [] φ st = some (.nx φ st) := rfl
theorem forLoop_cons (step) (x : PV) (xs : List PV) (φ : Slots) (st : Store) : forLoop step (x :: xs) φ st = match step x φ st with
    | some (.nx φ st) => forLoop step xs φ st
    | some (.ct φ st) => forLoop step xs φ st
    | some (.bk φ st) => some (.nx φ st)
    | r => r := rfl
/-- a loop that goes through -/
theorem forLoop_inv {step : PV → Slots → Store → Option FR} (I : Nat → Slots → Store → Prop) : ∀ (xs : List PV) (k : Nat) (φ : Slots) (st : Store), I k φ st →
    (∀ i x φ st, xs[i]? = some x → I (k + i) φ st → ∃ φ' st', step x φ st = some (.nx φ' st') ∧ I (k + i + 1) φ' st') → ∃ φ' st', forLoop step xs φ st = some (.nx φ' st') ∧ I (k + xs.length) φ' st'
  | [], k, φ, st, h0, _ => ⟨φ, st, rfl, h0⟩
  | x :: xs, k, φ, st, h0, h => by
    obtain ⟨φ1, st1, e1, i1⟩ := h 0 x φ st rfl h0
    obtain ⟨φ2, st2, e2, i2⟩ := forLoop_inv I xs (k + 1) φ1 st1 i1 fun i y φ st hy hi => by
      have := h (i + 1) y φ st (by simpa using hy) (by rw [show k + (i + 1) = k + 1 + i by omega]; exact hi)
      rwa [show k + (i + 1) + 1 = k + 1 + i + 1 by omega] at this
    refine ⟨φ2, st2, ?_, by rw [List.length_cons, show k + (xs.length + 1) = k + 1 + xs.length by omega]; exact i2⟩
    rw [forLoop_cons, e1]
    exact e2
/-! ### the draw -/
section
variable {P : Prog} {n f : Nat}
theorem draw_call (hd : P.defs[f]? = some drawMD) (F : Fd) {m : Int} (h1 : 0 < m) (h2 : m < 1073741824) {st : Store} {r : Nat} (hr : st[r]? = some F.cell) :
    (P.sem (n + 1)).call f [.ref r, .pv (.int m)] st = some (.ok (.pv (.int (F.draw m).1)) (st.set r (F.draw m).2.cell)) := by
  obtain ⟨_, _, run⟩ := F.draw_spec h1 h2
  have e : (P.sem (n + 1)).cal f [.ref r, .pv (.int m)] st = some (.ok (.pv (.int (F.draw m).1)) (st.set r (F.draw m).2.cell)) := by
    show P.cal (n + 1) f _ _ = _
    rw [cal_succ hd]
    exact run _ _ _ hr
  unfold Sem.call
  have hn : unpv [LV.ref r, LV.pv (.int m)] = none := rfl
  rw [hn]
  have ht : ∀ b, trunc st.length b (st.set r (F.draw m).2.cell) = st.set r (F.draw m).2.cell := fun b => by
    unfold trunc
    split
    · rw [List.take_of_length_le (by rw [List.length_set]; exact Nat.le_refl _)]
    · rfl
  cases (P.sem (n + 1)).shr f <;> simp only [e, ht]
/-- where nothing but the feed stands -/
theorem draw0 (hd : P.defs[f]? = some drawMD) (F : Fd) {m : Int} (h1 : 0 < m) (h2 : m < 1073741824) :
    (P.sem (n + 1)).call f [.ref 0, .pv (.int m)] [F.cell] = some (.ok (.pv (.int (F.draw m).1)) [(F.draw m).2.cell]) := draw_call hd F h1 h2 (st := [F.cell]) (r := 0) rfl
theorem draw_nat (F : Fd) {m : Int} (h1 : 0 < m) (h2 : m < 1073741824) : ∃ k : Nat, (F.draw m).1 = (k : Int) ∧ (k : Int) < m := by
  obtain ⟨k1, k2, _⟩ := F.draw_spec h1 h2
  exact ⟨(F.draw m).1.toNat, by omega, by omega⟩
end
end Z
namespace Z
/-! ### cells -/
section
variable {st : Store} {r : Nat} {b : Bool} {L : List LV} {v : LV}
theorem getI_ref {i : Int} (h : st[r]? = some (.lst b L)) (hi : atI L i = some v) : getI (.ref r) (.pv (.int i)) st = some (.ok v st) := by
  simp only [getI, h, hi]
theorem lenL_ref (h : st[r]? = some (.lst b L)) : lenL (.ref r) st = some L.length := by simp only [lenL, h]
theorem bm_append (h : st[r]? = some (.lst b L)) : bmOk .append (.ref r) st = true := by simp only [bmOk, h]
theorem bm_pop (h : st[r]? = some (.lst b L)) : bmOk .pop0 (.ref r) st = true := by simp only [bmOk, h]
theorem do_append (h : st[r]? = some (.lst true L)) (hl : L.length < line) : doBM .append (.ref r) [v] st = some (.ok (.pv .non) (st.set r (.lst true (L ++ [v])))) := by
  simp only [doBM, h, if_pos hl]
theorem do_pop (h : st[r]? = some (.lst true (L ++ [v]))) : doBM .pop0 (.ref r) [] st = some (.ok v (st.set r (.lst true L))) := by
  simp only [doBM, h, List.getLast?_append, List.getLast?_singleton, Option.some_or, List.dropLast_concat]
theorem mkLst_live (vs : List LV) (hl : vs.length ≤ line) : mkLst true vs st = some (.ok (.ref st.length) (st ++ [.lst true vs])) := by
  unfold mkLst
  rw [if_pos hl]; rfl
@[simp] theorem mkLst_live0 : mkLst true [] st = some (.ok (.ref st.length) (st ++ [.lst true []])) := rfl
theorem peek_ref {ps : List PV} (h : st[r]? = some (.lst b (ps.map .pv))) : peek st (.ref r) = some (.lst ps) := by
  simp only [peek, h, unpv_map, Option.map_some]
theorem frz_ref {ps : List PV} (h : st[r]? = some (.lst b (ps.map .pv))) : frz (.ref r) st = some (.lst ps, st.set r (.lst false (ps.map .pv))) := by
  simp only [frz, h, unpv_map]
end
end Z
namespace Z
theorem range_ok {n : Nat} (h : n ≤ line) : rangeOk (n : Int) = true := by
  have h1 : line = 16777216 := rfl
  have a : -(2 ^ 62 : Int) ≤ (n : Int) := by omega
  have b : (n : Int) < 2 ^ 62 := by omega
  unfold rangeOk
  rw [decide_eq_true a, decide_eq_true b]
  rfl
theorem items_upto {n : Nat} (h : n ≤ line) : items .range [.int (n : Int)] = some ((upto 0 n).map .int) := by
  simp only [items, range_ok h, if_true, Int.toNat_natCast]
theorem items_upto2 {m n : Nat} (h : n ≤ line) (hm : m ≤ line) : items .range [.int (m : Int), .int (n : Int)] = some ((upto m (n - m)).map .int) := by
  have e : ((n : Int) - (m : Int)).toNat = n - m := by omega
  simp only [items, range_ok h, range_ok hm, Bool.and_self, if_true, e]
theorem items_str {s : Sg} (h : s.length ≤ line) : items .val [.str s] = some (s.map fun c => .str [c]) := by simp only [items, if_pos h]
@[simp] theorem items_lst (xs : List PV) : items .val [.lst xs] = some xs := rfl
@[simp] theorem items_tup (xs : List PV) : items .val [.tup xs] = some xs := rfl
end Z
namespace Z
theorem forV_upto {n : Nat} (h : n ≤ line) (step) (φ : Slots) (st : Store) : forV .range [.pv (.int (n : Int))] step φ st = forLoop step ((upto 0 n).map .int) φ st := forV_of (ps := [.int n]) (items_upto h) step φ st
@[simp] theorem forV_lst (xs : List PV) (step) (φ : Slots) (st : Store) : forV .val [.pv (.lst xs)] step φ st = forLoop step xs φ st := forV_of (ps := [.lst xs]) rfl step φ st
@[simp] theorem forV_tup (xs : List PV) (step) (φ : Slots) (st : Store) : forV .val [.pv (.tup xs)] step φ st = forLoop step xs φ st := forV_of (ps := [.tup xs]) rfl step φ st
theorem forV_str {s : Sg} (h : s.length ≤ line) (step) (φ : Slots) (st : Store) : forV .val [.pv (.str s)] step φ st = forLoop step (s.map fun c => .str [c]) φ st := forV_of (ps := [.str s]) (items_str h) step φ st
theorem lcV_upto {live : Bool} {n : Nat} (h : n ≤ line) {step} {st st1 : Store} {vs : List LV} (hl : lcLoop step ((upto 0 n).map .int) st = some (vs, st1)) : lcV live .range [.pv (.int (n : Int))] step st = mkLst live vs st1 := lcV_of (ps := [.int n]) (items_upto h) hl
theorem lcV_lst {live : Bool} {xs : List PV} {step} {st st1 : Store} {vs : List LV} (hl : lcLoop step xs st = some (vs, st1)) : lcV live .val [.pv (.lst xs)] step st = mkLst live vs st1 := lcV_of (ps := [.lst xs]) rfl hl
theorem lcV_tup {live : Bool} {xs : List PV} {step} {st st1 : Store} {vs : List LV} (hl : lcLoop step xs st = some (vs, st1)) : lcV live .val [.pv (.tup xs)] step st = mkLst live vs st1 := lcV_of (ps := [.tup xs]) rfl hl
theorem lcV_str {live : Bool} {s : Sg} (h : s.length ≤ line) {step} {st st1 : Store} {vs : List LV} (hl : lcLoop step (s.map fun c => .str [c]) st = some (vs, st1)) : lcV live .val [.pv (.str s)] step st = mkLst live vs st1 := lcV_of (ps := [.str s]) (items_str h) hl
end Z
namespace Z
/-! ### where nothing but the feed stands -/
def Fed (st : Store) : Prop := ∃ F : Fd, st = [F.cell]
theorem Fd.below (F : Fd) : Cell.below 1 F.cell = true := by
  simp [Fd.cell, feedC, Cell.below, belows, Z.below]
section
variable {P : Prog} {n f : Nat} {st st1 : Store}
theorem fed_draw (hd : P.defs[f]? = some drawMD) (h : Fed st) {m : Int} (h1 : 0 < m) (h2 : m < 1073741824) :
    ∃ (k : Nat) (st' : Store), (P.sem (n + 1)).call f [.ref 0, .pv (.int m)] st = some (.ok (.pv (.int (k : Int))) st') ∧ (k : Int) < m ∧ Fed st' := by
  obtain ⟨F, rfl⟩ := h
  obtain ⟨k, e, hk⟩ := draw_nat F h1 h2
  refine ⟨k, _, ?_, hk, ⟨(F.draw m).2, rfl⟩⟩
  rw [draw0 hd F h1 h2, e]
/-- a def that is handed the feed -/
theorem call_fed {vs : List LV} {p : PV} {g : Store} {F' : Fd} (h : Fed st) (e : P.cal n f (.ref 0 :: vs) st = some (.ok (.pv p) (F'.cell :: g))) : (P.sem n).call f (.ref 0 :: vs) st = some (.ok (.pv p) [F'.cell]) := by
  obtain ⟨F, rfl⟩ := h
  have e' : (P.sem n).cal f (.ref 0 :: vs) [F.cell] = some (.ok (.pv p) (F'.cell :: g)) := e
  have ht : ∀ b, b = true → trunc [F.cell].length b (F'.cell :: g) = [F'.cell] := fun b hb => by
    subst hb
    simp [trunc, F'.below]
  unfold Sem.call
  have hu : unpv (LV.ref 0 :: vs) = none := rfl
  rw [hu]
  cases (P.sem n).shr f <;> simp only [e', ht _ (show below [F.cell].length (.pv p) = true from rfl)]
theorem call_fed' {vs : List LV} {p : PV} (h : Fed st) (e : P.cal n f (.ref 0 :: vs) st = some (.ok (.pv p) st1)) (h1 : Fed st1) : (P.sem n).call f (.ref 0 :: vs) st = some (.ok (.pv p) st1) := by
  obtain ⟨F', rfl⟩ := h1
  exact call_fed h e
end
/-- a comprehension that goes through -/
theorem lcLoop_inv {step : PV → Store → Option ERs} (I : Store → Prop) (Q : LV → Prop) : ∀ (xs : List PV) (st : Store), I st →
    (∀ x ∈ xs, ∀ st, I st → ∃ v st', step x st = some (.ok [v] st') ∧ I st' ∧ Q v) → ∃ vs st', lcLoop step xs st = some (vs, st') ∧ I st' ∧ vs.length = xs.length ∧ ∀ v ∈ vs, Q v
  | [], st, h, _ => ⟨[], st, rfl, h, rfl, fun v hv => by simp at hv⟩
  | x :: xs, st, h, hs => by
    obtain ⟨v, st1, e1, i1, q1⟩ := hs x (by simp) st h
    obtain ⟨vs, st2, e2, i2, l2, q2⟩ := lcLoop_inv I Q xs st1 i1 fun y hy => hs y (by simp [hy])
    refine ⟨v :: vs, st2, ?_, i2, by simp [l2], fun w hw => ?_⟩
    · unfold lcLoop
      rw [e1]
      simp only [noX, e2, List.singleton_append]
    · rcases List.mem_cons.mp hw with z | z
      · rw [z]; exact q1
      · exact q2 w z
end Z
end

section
namespace Z15
open Z
abbrev pw : PySem.Program := PySem.Challenge.pw_oncelinks_k15_whole_texts_of_terms
def top (i : Nat) : PySem.Stmt := pw.main.body.getD i (.Pass ⟨0, 0, 0, 0⟩)
def cbody (s : PySem.Stmt) : List PySem.Stmt := match s with
  | .ClassDef _ _ _ b _ _ _ _ _ _ _ => b
  | _ => []
def inC (i j : Nat) : PySem.Stmt := (cbody (top i)).getD j (.Pass ⟨0, 0, 0, 0⟩)
/-- text_of_term -/
def m0 : MD := ⟨1, 1, [.iff (.cmp .eq (.idx (.var 0) (.lit (.int 0))) (.glb 2)) [.ret (.idx (.var 0) (.lit (.int 1)))] [], .iff (.cmp .eq (.idx (.var 0) (.lit (.int 0))) (.glb 3)) [.ret (.bin .add (.bin .add (.bin .add (.bin .add (.lit (.str [40])) (.idx (.var 0) (.lit (.int 1)))) (.lit (.str [46]))) (.call 0 [.idx (.var 0) (.lit (.int 2))])) (.lit (.str [41])))] [], .ret (.bin .add (.bin .add (.bin .add (.bin .add (.lit (.str [40])) (.call 0 [.idx (.var 0) (.lit (.int 1))])) (.lit (.str [32]))) (.call 0 [.idx (.var 0) (.lit (.int 2))])) (.lit (.str [41])))]⟩
def q0 : DD := ⟨m0, ["term"], ⟨("text_of_term", none), "text_of_term", "text_of_term", L2.defArgs (top 12), L2.defBody (top 12), L2.defScope (top 12), [], []⟩⟩
/-- term_of_text -/
def m1 : MD := ⟨1, 3, [.asg (.nm 1) (.new 0 16 [.var 0]), .asg (.nm 2) (.mcall 0 21 (.var 1) []), .ex (.mcall 0 20 (.var 1) []), .iff (.cmp .gt (.bi .len [.var 0]) (.glb 5)) [.raise 1 [.bi .len [.var 0]]] [], .ret (.var 2)]⟩
def q1 : DD := ⟨m1, ["text", "reader", "found"], ⟨("term_of_text", none), "term_of_text", "term_of_text", L2.defArgs (top 14), L2.defBody (top 14), L2.defScope (top 14), [], []⟩⟩
/-- _law_feed -/
def m2 : MD := ⟨1, 1, [.ret (.lst true [.bi .list [.var 0], .lit (.int 0), .lit (.int 0), .lit (.int 1)])]⟩
def q2 : DD := ⟨m2, ["script"], ⟨("_law_feed", none), "_law_feed", "_law_feed", L2.defArgs (top 16), L2.defBody (top 16), L2.defScope (top 16), [], []⟩⟩
/-- _law_draw -/
def m3 : MD := ⟨2, 5, [.iff (.boolop true [.cmp .eq (.idx (.var 0) (.lit (.int 2))) (.lit (.int 0)), .cmp .lt (.idx (.var 0) (.lit (.int 1))) (.bi .len [.idx (.var 0) (.lit (.int 0))])]) [.asg (.nm 3) (.bi .abs [.bi .int [.idx (.idx (.var 0) (.lit (.int 0))) (.idx (.var 0) (.lit (.int 1)))]]), .augI (.var 0) (.lit (.int 1)) .add (.lit (.int 1)), .iff (.cmp .ge (.var 3) (.bin .pow (.lit (.int 10)) (.lit (.int 18)))) [.asgI (.var 0) (.lit (.int 2)) (.var 3)] [.asgI (.var 0) (.lit (.int 3)) (.bin .mod (.bi .int [.bin .add (.bin .add (.bin .mul (.idx (.var 0) (.lit (.int 3))) (.lit (.int 48271))) (.bin .mul (.var 3) (.lit (.int 69621)))) (.idx (.var 0) (.lit (.int 1)))]) (.lit (.int 2147483647)))]] [], .iff (.cmp .gt (.idx (.var 0) (.lit (.int 2))) (.lit (.int 0))) [.asg (.nm 4) (.bin .mod (.bi .int [.idx (.var 0) (.lit (.int 2))]) (.var 1)), .asgI (.var 0) (.lit (.int 2)) (.bin .fdiv (.idx (.var 0) (.lit (.int 2))) (.var 1)), .ret (.var 4)] [], .asgI (.var 0) (.lit (.int 3)) (.bin .mod (.bi .int [.bin .add (.bin .mul (.idx (.var 0) (.lit (.int 3))) (.lit (.int 16807))) (.lit (.int 12345))]) (.lit (.int 2147483647))), .asg (.nm 2) (.bin .mod (.bi .int [.bin .add (.bin .mul (.idx (.var 0) (.lit (.int 3))) (.idx (.var 0) (.lit (.int 3)))) (.idx (.var 0) (.lit (.int 3)))]) (.lit (.int 2147483629))), .ret (.bin .mod (.bin .fdiv (.var 2) (.lit (.int 11))) (.var 1))]⟩
def q3 : DD := ⟨m3, ["feed", "many", "mixed", "cell", "told"], ⟨("_law_draw", none), "_law_draw", "_law_draw", L2.defArgs (top 17), L2.defBody (top 17), L2.defScope (top 17), [], []⟩⟩
/-- _law_same -/
def m4 : MD := ⟨2, 3, [.iff (.boolop false [.val (.isi .list (.var 1)), .val (.isi .tuple (.var 1))]) [.iff (.boolop false [.cmp .ne (.isi .list (.var 0)) (.isi .list (.var 1)), .cmp .ne (.isi .tuple (.var 0)) (.isi .tuple (.var 1))]) [.ret (.lit (.bl false))] [], .ret (.boolop true [.cmp .eq (.bi .len [.var 0]) (.bi .len [.var 1]), .bi .all [.lc false (.call 4 [.idx (.var 0) (.var 2), .idx (.var 1) (.var 2)]) (.nm 2) .range [.bi .len [.var 1]] [] [2]]])] [], .iff (.boolop false [.isn false (.var 1), .val (.isi .bool (.var 1))]) [.ret (.boolop true [.cmp .eq (.isi .bool (.var 0)) (.isi .bool (.var 1)), .cmp .eq (.var 0) (.var 1)])] [], .iff (.val (.isi .str (.var 1))) [.ret (.boolop true [.isi .str (.var 0), .cmp .eq (.var 0) (.var 1)])] [], .ret (.boolop true [.isi .int (.var 0), .not (.isi .bool (.var 0)), .cmp .eq (.var 0) (.var 1)])]⟩
def q4 : DD := ⟨m4, ["told", "due", "k"], ⟨("_law_same", none), "_law_same", "_law_same", L2.defArgs (top 18), L2.defBody (top 18), L2.defScope (top 18), [], []⟩⟩
/-- _law_open -/
def m5 : MD := ⟨4, 8, [.asg (.nm 4) (.call 3 [.var 0, .lit (.int 4)]), .iff (.boolop true [.cmp .eq (.bi .len [.var 1]) (.lit (.int 1)), .boolop false [.cmp .lt (.var 2) (.lit (.int 1)), .cmp .eq (.var 4) (.lit (.int 0))]]) [.ret (.tup [.lit (.str [118, 97, 114]), .idx (.var 1) (.lit (.int 0))])] [], .iff (.boolop false [.cmp .eq (.bi .len [.var 1]) (.lit (.int 0)), .boolop true [.cmp .gt (.var 2) (.lit (.int 0)), .cmp .eq (.var 4) (.lit (.int 1))]]) [.augI (.var 3) (.lit (.int 0)) .add (.lit (.int 1)), .asg (.nm 7) (.bin .add (.idx (.lit (.str [120, 121, 122, 117, 118, 119])) (.bin .mod (.bi .int [.idx (.var 3) (.lit (.int 0))]) (.lit (.int 6)))) (.idx (.lit (.str [97, 98, 99, 100, 101, 102, 103, 104, 105, 106, 107, 108, 109, 110, 111, 112, 113, 114, 115, 116, 117, 118, 119, 120, 121, 122])) (.bin .fdiv (.idx (.var 3) (.lit (.int 0))) (.lit (.int 6))))), .iff (.cmp .lt (.var 2) (.lit (.int 1))) [.ret (.tup [.lit (.str [102, 117, 110]), .var 7, .tup [.lit (.str [118, 97, 114]), .var 7]])] [], .ret (.tup [.lit (.str [102, 117, 110]), .var 7, .call 5 [.var 0, .bin .add (.var 1) (.lst false [.var 7]), .bin .sub (.var 2) (.lit (.int 1)), .var 3]])] [], .asg (.nm 5) (.lc false (.var 7) (.nm 7) .val [.var 1] [.cmp .eq (.call 3 [.var 0, .lit (.int 2)]) (.lit (.int 0))] [7]), .iff (.boolop false [.cmp .lt (.var 2) (.lit (.int 1)), .cmp .gt (.call 3 [.var 0, .lit (.int 3)]) (.lit (.int 0))]) [.iff (.boolop true [.cmp .gt (.bi .len [.var 1]) (.lit (.int 1)), .boolop false [.cmp .eq (.bi .len [.var 5]) (.lit (.int 0)), .cmp .eq (.bi .len [.var 5]) (.bi .len [.var 1])]]) [.asg (.nm 5) (.slc (.var 1) false (.lit .non) true (.lit (.int 1)))] []] [], .asg (.nm 6) (.lc false (.var 7) (.nm 7) .val [.var 1] [.cmp .nin (.var 7) (.var 5)] [7]), .ret (.tup [.lit (.str [117, 115, 101]), .call 5 [.var 0, .var 5, .bin .fdiv (.bin .sub (.var 2) (.lit (.int 1))) (.lit (.int 2)), .var 3], .call 5 [.var 0, .var 6, .bin .fdiv (.var 2) (.lit (.int 2)), .var 3]])]⟩
def q5 : DD := ⟨m5, ["feed", "names", "fuel", "state", "kind", "left", "right", "name"], ⟨("_law_open", none), "_law_open", "_law_open", L2.defArgs (top 19), L2.defBody (top 19), L2.defScope (top 19), [], []⟩⟩
/-- _law_many_vars -/
def m6 : MD := ⟨1, 2, [.iff (.cmp .eq (.idx (.var 0) (.lit (.int 0))) (.lit (.str [118, 97, 114]))) [.ret (.lit (.int 1))] [], .ret (.bi .sum [.lc false (.call 6 [.var 1]) (.nm 1) .val [.slc (.var 0) true (.lit (.int 1)) false (.lit .non)] [.val (.isi .tuple (.var 1))] [1]])]⟩
def q6 : DD := ⟨m6, ["term", "part"], ⟨("_law_many_vars", none), "_law_many_vars", "_law_many_vars", L2.defArgs (top 20), L2.defBody (top 20), L2.defScope (top 20), [], []⟩⟩
/-- _law_term -/
def m7 : MD := ⟨2, 4, [.for_ (.nm 2) .range [.lit (.int 6)] [.asg (.nm 3) (.call 5 [.var 0, .lst false [], .bin .add (.lit (.int 1)) (.call 3 [.var 0, .bin .add (.var 1) (.lit (.int 1))]), .lst true [.lit (.int 0)]]), .iff (.cmp .le (.call 6 [.var 3]) (.var 1)) [.ret (.var 3)] []], .ret (.tup [.lit (.str [102, 117, 110]), .lit (.str [120]), .tup [.lit (.str [102, 117, 110]), .lit (.str [121]), .tup [.lit (.str [117, 115, 101]), .tup [.lit (.str [118, 97, 114]), .lit (.str [121])], .tup [.lit (.str [118, 97, 114]), .lit (.str [120])]]]])]⟩
def q7 : DD := ⟨m7, ["feed", "most", "step", "term"], ⟨("_law_term", none), "_law_term", "_law_term", L2.defArgs (top 21), L2.defBody (top 21), L2.defScope (top 21), [], []⟩⟩
/-- _law_write -/
def m8 : MD := ⟨1, 1, [.iff (.cmp .eq (.idx (.var 0) (.lit (.int 0))) (.lit (.str [118, 97, 114]))) [.ret (.idx (.var 0) (.lit (.int 1)))] [], .iff (.cmp .eq (.idx (.var 0) (.lit (.int 0))) (.lit (.str [102, 117, 110]))) [.ret (.bin .add (.bin .add (.bin .add (.bin .add (.lit (.str [40])) (.idx (.var 0) (.lit (.int 1)))) (.lit (.str [46]))) (.call 8 [.idx (.var 0) (.lit (.int 2))])) (.lit (.str [41])))] [], .ret (.bin .add (.bin .add (.bin .add (.bin .add (.lit (.str [40])) (.call 8 [.idx (.var 0) (.lit (.int 1))])) (.lit (.str [32]))) (.call 8 [.idx (.var 0) (.lit (.int 2))])) (.lit (.str [41])))]⟩
def q8 : DD := ⟨m8, ["term"], ⟨("_law_write", none), "_law_write", "_law_write", L2.defArgs (top 22), L2.defBody (top 22), L2.defScope (top 22), [], []⟩⟩
/-- _law_name_end -/
def m9 : MD := ⟨2, 3, [.asg (.nm 2) (.var 1), .whl (.boolop true [.cmp .lt (.var 2) (.bi .len [.var 0]), .cmp .lt (.var 2) (.bin .add (.var 1) (.lit (.int 4))), .cmp .in_ (.idx (.var 0) (.var 2)) (.lit (.str [97, 98, 99, 100, 101, 102, 103, 104, 105, 106, 107, 108, 109, 110, 111, 112, 113, 114, 115, 116, 117, 118, 119, 120, 121, 122]))]) [.aug 2 .add (.lit (.int 1))], .ret (.var 2)]⟩
def q9 : DD := ⟨m9, ["text", "at", "end"], ⟨("_law_name_end", none), "_law_name_end", "_law_name_end", L2.defArgs (top 23), L2.defBody (top 23), L2.defScope (top 23), [], []⟩⟩
/-- _law_read -/
def m10 : MD := ⟨2, 8, [.asg (.nm 2) (.call 9 [.var 0, .var 1]), .iff (.cmp .gt (.var 2) (.var 1)) [.ret (.tup [.tup [.lit (.str [118, 97, 114]), .slc (.var 0) true (.var 1) true (.var 2)], .var 2])] [], .iff (.boolop false [.cmp .ge (.var 1) (.bi .len [.var 0]), .cmp .ne (.idx (.var 0) (.var 1)) (.lit (.str [40]))]) [.ret (.tup [.lit (.str [98, 97, 100]), .var 1])] [], .asg (.nm 2) (.call 9 [.var 0, .bin .add (.var 1) (.lit (.int 1))]), .iff (.boolop true [.cmp .gt (.var 2) (.bin .add (.var 1) (.lit (.int 1))), .cmp .eq (.slc (.var 0) true (.var 2) true (.bin .add (.var 2) (.lit (.int 1)))) (.lit (.str [46]))]) [.asg (.tp [.nm 7, .nm 4]) (.call 10 [.var 0, .bin .add (.var 2) (.lit (.int 1))]), .iff (.cmp .eq (.var 7) (.lit (.str [98, 97, 100]))) [.ret (.tup [.lit (.str [98, 97, 100]), .var 4])] [], .ret (.idx (.lst false [.tup [.lit (.str [98, 97, 100]), .var 4], .tup [.tup [.lit (.str [102, 117, 110]), .slc (.var 0) true (.bin .add (.var 1) (.lit (.int 1))) true (.var 2), .var 7], .bin .add (.var 4) (.lit (.int 1))]]) (.bi .int [.cmp .eq (.slc (.var 0) true (.var 4) true (.bin .add (.var 4) (.lit (.int 1)))) (.lit (.str [41]))]))] [], .asg (.tp [.nm 3, .nm 4]) (.call 10 [.var 0, .bin .add (.var 1) (.lit (.int 1))]), .iff (.cmp .eq (.var 3) (.lit (.str [98, 97, 100]))) [.ret (.tup [.lit (.str [98, 97, 100]), .var 4])] [], .iff (.cmp .ne (.slc (.var 0) true (.var 4) true (.bin .add (.var 4) (.lit (.int 1)))) (.lit (.str [32]))) [.ret (.tup [.lit (.str [98, 97, 100]), .var 4])] [], .asg (.tp [.nm 5, .nm 6]) (.call 10 [.var 0, .bin .add (.var 4) (.lit (.int 1))]), .iff (.cmp .eq (.var 5) (.lit (.str [98, 97, 100]))) [.ret (.tup [.lit (.str [98, 97, 100]), .var 6])] [], .ret (.idx (.lst false [.tup [.lit (.str [98, 97, 100]), .var 6], .tup [.tup [.lit (.str [117, 115, 101]), .var 3, .var 5], .bin .add (.var 6) (.lit (.int 1))]]) (.bi .int [.cmp .eq (.slc (.var 0) true (.var 6) true (.bin .add (.var 6) (.lit (.int 1)))) (.lit (.str [41]))]))]⟩
def q10 : DD := ⟨m10, ["text", "at", "end", "one", "after", "other", "last", "body"], ⟨("_law_read", none), "_law_read", "_law_read", L2.defArgs (top 24), L2.defBody (top 24), L2.defScope (top 24), [], []⟩⟩
/-- _law_term_of -/
def m11 : MD := ⟨1, 3, [.asg (.tp [.nm 1, .nm 2]) (.call 10 [.var 0, .lit (.int 0)]), .iff (.cmp .eq (.var 1) (.lit (.str [98, 97, 100]))) [.ret (.tup [.lit (.str [98, 97, 100]), .var 2])] [], .iff (.cmp .lt (.var 2) (.bi .len [.var 0])) [.ret (.tup [.lit (.str [98, 97, 100]), .var 2])] [], .ret (.idx (.lst false [.tup [.lit (.str [116, 101, 114, 109]), .var 1], .tup [.lit (.str [98, 97, 100]), .bi .len [.var 0]]]) (.bi .int [.cmp .gt (.bi .len [.var 0]) (.lit (.int 120))]))]⟩
def q11 : DD := ⟨m11, ["text", "term", "after"], ⟨("_law_term_of", none), "_law_term_of", "_law_term_of", L2.defArgs (top 25), L2.defBody (top 25), L2.defScope (top 25), [], []⟩⟩
/-- _law_told -/
def m12 : MD := ⟨1, 2, [.tryE [.ret (.tup [.lit (.str [116, 101, 114, 109]), .call 1 [.var 0]])] 1 (some 1) [.iff (.boolop false [.not (.val (.xisi 1 0)), .val (.xisi 1 2), .val (.xisi 1 3)]) [.ret (.tup [.lit (.str [101, 114, 114, 111, 114]), .lit (.int 0)])] [], .ret (.tup [.lit (.str [98, 97, 100]), .xfld 1 0])]]⟩
def q12 : DD := ⟨m12, ["text", "e"], ⟨("_law_told", none), "_law_told", "_law_told", L2.defArgs (top 26), L2.defBody (top 26), L2.defScope (top 26), [], []⟩⟩
/-- _law_free -/
def m13 : MD := ⟨2, 5, [.asg (.nm 2) (.call 3 [.var 0, .lit (.int 4)]), .asg (.nm 3) (.idx (.lst false [.lit (.str [97]), .lit (.str [120]), .lit (.str [121, 121]), .lit (.str [97, 98, 99, 100]), .slc (.lit (.str [102, 117, 110])) false (.lit .non) true (.lit (.int 3)), .lit (.str [122])]) (.call 3 [.var 0, .lit (.int 6)])), .iff (.boolop false [.cmp .lt (.var 1) (.lit (.int 2)), .cmp .eq (.var 2) (.lit (.int 0))]) [.ret (.tup [.lit (.str [118, 97, 114]), .var 3])] [], .iff (.cmp .eq (.var 2) (.lit (.int 1))) [.ret (.tup [.lit (.str [102, 117, 110]), .var 3, .call 13 [.var 0, .bin .sub (.var 1) (.lit (.int 1))]])] [], .asg (.nm 4) (.bin .add (.lit (.int 1)) (.call 3 [.var 0, .bin .sub (.var 1) (.lit (.int 1))])), .ret (.tup [.lit (.str [117, 115, 101]), .call 13 [.var 0, .var 4], .call 13 [.var 0, .bin .sub (.var 1) (.var 4)]])]⟩
def q13 : DD := ⟨m13, ["feed", "many", "kind", "name", "left"], ⟨("_law_free", none), "_law_free", "_law_free", L2.defArgs (top 27), L2.defBody (top 27), L2.defScope (top 27), [], []⟩⟩
/-- _law_right -/
def m14 : MD := ⟨2, 8, [.asg (.nm 2) (.call 8 [.var 1]), .asg (.nm 3) (.idx (.lst false [.tup [.lit (.str [116, 101, 114, 109]), .var 1], .tup [.lit (.str [98, 97, 100]), .bi .len [.var 2]]]) (.bi .int [.cmp .gt (.bi .len [.var 2]) (.lit (.int 120))])), .iff (.boolop false [.not (.val (.call 4 [.call 0 [.var 1], .var 2])), .not (.val (.call 4 [.call 12 [.var 2], .var 3])), .not (.val (.call 4 [.call 11 [.var 2], .var 3]))]) [.ret (.lit (.bl false))] [], .for_ (.nm 4) .range [.lit (.int 8)] [.asg (.nm 5) (.call 3 [.var 0, .bin .add (.bi .len [.var 2]) (.lit (.int 1))]), .asg (.nm 6) (.idx (.lit (.str [97, 120, 40, 41, 46, 32, 122])) (.call 3 [.var 0, .lit (.int 7)])), .asg (.nm 7) (.idx (.lst false [.bin .add (.slc (.var 2) false (.lit .non) true (.var 5)) (.slc (.var 2) true (.bin .add (.var 5) (.lit (.int 1))) false (.lit .non)), .bin .add (.bin .add (.slc (.var 2) false (.lit .non) true (.var 5)) (.var 6)) (.slc (.var 2) true (.var 5) false (.lit .non)), .bin .add (.bin .add (.slc (.var 2) false (.lit .non) true (.var 5)) (.var 6)) (.slc (.var 2) true (.bin .add (.var 5) (.lit (.int 1))) false (.lit .non)), .slc (.var 2) false (.lit .non) true (.var 5), .bin .add (.bin .add (.slc (.var 2) false (.lit .non) true (.var 5)) (.rev (.slc (.var 2) true (.var 5) true (.bin .add (.var 5) (.lit (.int 2)))))) (.slc (.var 2) true (.bin .add (.var 5) (.lit (.int 2))) false (.lit .non))]) (.call 3 [.var 0, .lit (.int 5)])), .iff (.boolop true [.cmp .eq (.call 3 [.var 0, .lit (.int 3)]) (.lit (.int 0)), .cmp .gt (.bi .len [.var 7]) (.lit (.int 0))]) [.asg (.nm 5) (.call 3 [.var 0, .bi .len [.var 7]]), .asg (.nm 7) (.bin .add (.bin .add (.slc (.var 7) false (.lit .non) true (.var 5)) (.idx (.lit (.str [41, 40, 46, 32, 97])) (.call 3 [.var 0, .lit (.int 5)]))) (.slc (.var 7) true (.bin .add (.var 5) (.lit (.int 1))) false (.lit .non)))] [], .iff (.not (.val (.call 4 [.call 12 [.var 7], .call 11 [.var 7]]))) [.ret (.lit (.bl false))] []], .ret (.call 4 [.call 12 [.var 2], .var 3])]⟩
def q14 : DD := ⟨m14, ["feed", "term", "text", "due", "step", "at", "sign", "other"], ⟨("_law_right", none), "_law_right", "_law_right", L2.defArgs (top 28), L2.defBody (top 28), L2.defScope (top 28), [], []⟩⟩
/-- law -/
def m15 : MD := ⟨1, 11, [.asg (.nm 1) (.call 2 [.var 0]), .for_ (.nm 2) .range [.lit (.int 4)] [.asg (.nm 9) (.lit (.int 7)), .iff (.cmp .eq (.call 3 [.var 1, .lit (.int 8)]) (.lit (.int 0))) [.asg (.nm 9) (.lit (.int 14))] [], .iff (.boolop false [.not (.val (.call 14 [.var 1, .call 7 [.var 1, .var 9]])), .not (.val (.call 14 [.var 1, .call 13 [.var 1, .lit (.int 6)]]))]) [.ret (.lit (.bl false))] []], .asg (.nm 3) (.bin .add (.lit (.int 112)) (.call 3 [.var 1, .lit (.int 5)])), .asg (.nm 4) (.bin .add (.bin .add (.bin .mul (.lit (.str [40, 97, 98, 99, 100, 46])) (.bin .fdiv (.var 3) (.lit (.int 7)))) (.bin .mul (.lit (.str [120])) (.bin .add (.lit (.int 1)) (.bin .mod (.bi .int [.var 3]) (.lit (.int 4)))))) (.bin .mul (.lit (.str [41])) (.bin .fdiv (.var 3) (.lit (.int 7))))), .for_ (.nm 5) .val [.lst false [.var 4, .bin .add (.bin .add (.lit (.str [40, 120, 32])) (.slc (.var 4) false (.lit .non) true (.neg (.lit (.int 1))))) (.lit (.str [41, 41])), .bin .add (.bin .add (.lit (.str [40])) (.var 4)) (.lit (.str [32, 121, 41])), .bin .add (.var 4) (.lit (.str [41]))]] [.iff (.not (.val (.call 4 [.call 12 [.var 5], .call 11 [.var 5]]))) [.ret (.lit (.bl false))] []], .asg (.nm 6) (.lst false [.tup [.lit (.str []), .lit (.int 0)], .tup [.lit (.str [40]), .lit (.int 1)], .tup [.lit (.str [40, 120]), .lit (.int 2)], .tup [.lit (.str [40, 120, 46]), .lit (.int 3)], .tup [.lit (.str [40, 120, 46, 120]), .lit (.int 4)], .tup [.lit (.str [40, 120, 46, 120, 41, 120]), .lit (.int 5)], .tup [.lit (.str [40, 120, 32, 32, 121, 41]), .lit (.int 3)], .tup [.lit (.str [40, 120, 32, 121]), .lit (.int 4)]]), .asg (.nm 6) (.bin .add (.var 6) (.lst false [.tup [.lit (.str [40, 97, 98, 99, 100, 101, 46, 120, 41]), .lit (.int 5)], .tup [.lit (.str [97, 98, 99, 100, 101]), .lit (.int 4)], .tup [.lit (.str [40, 120, 46, 32, 120, 41]), .lit (.int 3)], .tup [.lit (.str [40, 40, 120, 32, 121, 41, 46, 122, 41]), .lit (.int 6)], .tup [.lit (.str [88]), .lit (.int 0)], .tup [.lit (.str [40, 120, 46, 40, 41, 41]), .lit (.int 4)]])), .iff (.cmp .gt (.bi .len [.lc false (.var 4) (.tp [.nm 4, .nm 10]) .val [.var 6] [.not (.val (.call 4 [.call 12 [.var 4], .tup [.lit (.str [98, 97, 100]), .var 10]]))] [4, 10]]) (.lit (.int 0))) [.ret (.lit (.bl false))] [], .asg (.nm 7) (.bin .add (.bin .add (.bin .mul (.lit (.str [40, 97, 46, 40, 98, 32])) (.lit (.int 14))) (.lit (.str [120]))) (.bin .mul (.lit (.str [41, 41])) (.lit (.int 14)))), .asg (.nm 8) (.bin .add (.bin .add (.bin .add (.bin .add (.lit (.str [40, 120, 32])) (.slc (.var 7) false (.lit .non) true (.lit (.int 3)))) (.lit (.str [40, 121, 121, 121, 121, 32]))) (.slc (.var 7) true (.lit (.int 3)) false (.lit .non))) (.lit (.str [41, 41]))), .iff (.boolop false [.cmp .ne (.bi .len [.var 7]) (.lit (.int 113)), .cmp .ne (.idx (.call 12 [.var 7]) (.lit (.int 0))) (.lit (.str [116, 101, 114, 109])), .not (.val (.call 4 [.call 12 [.var 8], .tup [.lit (.str [98, 97, 100]), .bi .len [.var 8]]]))]) [.ret (.lit (.bl false))] [], .ret (.call 4 [.call 12 [.lit (.str [40, 40, 120, 46, 40, 120, 32, 121, 41, 41, 32, 40, 122, 46, 97, 98, 99, 100, 41, 41])], .tup [.lit (.str [116, 101, 114, 109]), .tup [.lit (.str [117, 115, 101]), .tup [.lit (.str [102, 117, 110]), .lit (.str [120]), .tup [.lit (.str [117, 115, 101]), .tup [.lit (.str [118, 97, 114]), .lit (.str [120])], .tup [.lit (.str [118, 97, 114]), .lit (.str [121])]]], .tup [.lit (.str [102, 117, 110]), .lit (.str [122]), .tup [.lit (.str [118, 97, 114]), .lit (.str [97, 98, 99, 100])]]]]])]⟩
def q15 : DD := ⟨m15, ["script", "feed", "turn", "many", "text", "own", "faults", "wide", "longer", "most", "at"], ⟨("law", none), "law", "law", L2.defArgs (top 29), L2.defBody (top 29), L2.defScope (top 29), [], []⟩⟩
/-- Reader.__init__ -/
def m16 : MD := ⟨2, 2, [.fset 0 (.var 0) 4 (.var 1), .fset 0 (.var 0) 5 (.lit (.int 0))]⟩
def q16 : DD := ⟨m16, ["self", "text"], ⟨("Reader", some "__init__"), "__init__", "Reader.__init__", L2.defArgs (inC 13 0), L2.defBody (inC 13 0), L2.defScope (inC 13 0), [], []⟩⟩
/-- Reader.sign -/
def m17 : MD := ⟨1, 1, [.ret (.slc (.fld 0 (.var 0) 4) true (.fld 0 (.var 0) 5) true (.bin .add (.fld 0 (.var 0) 5) (.lit (.int 1))))]⟩
def q17 : DD := ⟨m17, ["self"], ⟨("Reader", some "sign"), "sign", "Reader.sign", L2.defArgs (inC 13 1), L2.defBody (inC 13 1), L2.defScope (inC 13 1), [], []⟩⟩
/-- Reader.take -/
def m18 : MD := ⟨2, 3, [.asg (.nm 2) (.mcall 0 17 (.var 0) []), .iff (.boolop false [.cmp .eq (.var 2) (.lit (.str [])), .cmp .nin (.var 2) (.var 1)]) [.raise 1 [.fld 0 (.var 0) 5]] [], .faug 0 (.var 0) 5 .add (.lit (.int 1)), .ret (.var 2)]⟩
def q18 : DD := ⟨m18, ["self", "allowed", "sign"], ⟨("Reader", some "take"), "take", "Reader.take", L2.defArgs (inC 13 2), L2.defBody (inC 13 2), L2.defScope (inC 13 2), [], []⟩⟩
/-- Reader.name -/
def m19 : MD := ⟨1, 2, [.asg (.nm 1) (.mcall 0 18 (.var 0) [.glb 0]), .whl (.boolop true [.cmp .ne (.mcall 0 17 (.var 0) []) (.lit (.str [])), .cmp .in_ (.mcall 0 17 (.var 0) []) (.glb 0), .cmp .lt (.bi .len [.var 1]) (.glb 1)]) [.aug 1 .add (.mcall 0 18 (.var 0) [.glb 0])], .ret (.var 1)]⟩
def q19 : DD := ⟨m19, ["self", "name"], ⟨("Reader", some "name"), "name", "Reader.name", L2.defArgs (inC 13 3), L2.defBody (inC 13 3), L2.defScope (inC 13 3), [], []⟩⟩
/-- Reader.end -/
def m20 : MD := ⟨1, 1, [.iff (.cmp .ne (.mcall 0 17 (.var 0) []) (.lit (.str []))) [.raise 1 [.fld 0 (.var 0) 5]] []]⟩
def q20 : DD := ⟨m20, ["self"], ⟨("Reader", some "end"), "end", "Reader.end", L2.defArgs (inC 13 4), L2.defBody (inC 13 4), L2.defScope (inC 13 4), [], []⟩⟩
/-- Reader.term -/
def m21 : MD := ⟨1, 5, [.iff (.cmp .ne (.mcall 0 17 (.var 0) []) (.lit (.str [40]))) [.ret (.tup [.glb 2, .mcall 0 19 (.var 0) []])] [], .ex (.mcall 0 18 (.var 0) [.lit (.str [40])]), .iff (.cmp .eq (.mcall 0 17 (.var 0) []) (.lit (.str [40]))) [.asg (.nm 2) (.mcall 0 21 (.var 0) [])] [.asg (.nm 3) (.mcall 0 19 (.var 0) []), .iff (.cmp .eq (.mcall 0 17 (.var 0) []) (.lit (.str [46]))) [.ex (.mcall 0 18 (.var 0) [.lit (.str [46])]), .asg (.nm 4) (.mcall 0 21 (.var 0) []), .ex (.mcall 0 18 (.var 0) [.lit (.str [41])]), .ret (.tup [.glb 3, .var 3, .var 4])] [], .asg (.nm 2) (.tup [.glb 2, .var 3])], .ex (.mcall 0 18 (.var 0) [.lit (.str [32])]), .asg (.nm 1) (.mcall 0 21 (.var 0) []), .ex (.mcall 0 18 (.var 0) [.lit (.str [41])]), .ret (.tup [.glb 4, .var 2, .var 1])]⟩
def q21 : DD := ⟨m21, ["self", "second", "first", "name", "body"], ⟨("Reader", some "term"), "term", "Reader.term", L2.defArgs (inC 13 5), L2.defBody (inC 13 5), L2.defScope (inC 13 5), [], []⟩⟩
def txt : Txt := {
  defs := [q0, q1, q2, q3, q4, q5, q6, q7, q8, q9, q10, q11, q12, q13, q14, q15, q16, q17, q18, q19, q20, q21]
  consts := [("LETTERS", .str [97, 98, 99, 100, 101, 102, 103, 104, 105, 106, 107, 108, 109, 110, 111, 112, 113, 114, 115, 116, 117, 118, 119, 120, 121, 122]), ("MOST_LETTERS", .int 4), ("VAR", .str [118, 97, 114]), ("FUN", .str [102, 117, 110]), ("USE", .str [117, 115, 101]), ("MOST_SIGNS", .int 120)]
  fnames := ["at", "kind", "x", "line", "text", "place"]
  errs := [⟨"OnceError", 0, [], none⟩,
    ⟨"BadText", 1, [(0, 0)], some (["self", "at"], ⟨("BadText", some "__init__"), "__init__", "BadText.__init__", L2.defArgs (inC 2 0), L2.defBody (inC 2 0), L2.defScope (inC 2 0), [], []⟩)⟩,
    ⟨"BadTerm", 2, [(1, 0), (2, 1)], some (["self", "kind", "x"], ⟨("BadTerm", some "__init__"), "__init__", "BadTerm.__init__", L2.defArgs (inC 3 0), L2.defBody (inC 3 0), L2.defScope (inC 3 0), [], []⟩)⟩,
    ⟨"BadLine", 1, [(3, 0)], some (["self", "line"], ⟨("BadLine", some "__init__"), "__init__", "BadLine.__init__", L2.defArgs (inC 4 0), L2.defBody (inC 4 0), L2.defScope (inC 4 0), [], []⟩)⟩]
  subs := [[true, false, false, false], [true, true, false, false], [true, false, true, false], [true, false, false, true]]
  hots := []
  cls := [⟨"Reader", [4, 5], [("__init__", 16, 2), ("sign", 17, 1), ("take", 18, 2), ("name", 19, 1), ("end", 20, 1), ("term", 21, 1)]⟩] }
def shr : Nat → Bool := fun i => i == 2
-- loose: ["OnceError", "BadText", "BadTerm", "BadLine", "text_of_term", "Reader", "term_of_text", "_law_feed", "_law_draw", "_law_same", "_law_open", "_law_many_vars", "_law_term", "_law_write", "_law_name_end", "_law_read", "_law_term_of", "_law_told", "_law_free", "_law_right", "law"]

theorem ok : txt.ok = true := by decide +kernel
end Z15
end

section
namespace Z15
open Z
abbrev Pr := txt.prog shr 1000
theorem line_eq : line = 16777216 := rfl
/-! ### terms -/
abbrev sVar : Sg := [118, 97, 114]
abbrev sFun : Sg := [102, 117, 110]
abbrev sUse : Sg := [117, 115, 101]
inductive Tm where
  | var (x : Sg)
  | fn (x : Sg) (b : Tm)
  | use (a b : Tm)
def Tm.tree : Tm → PV
  | .var x => .tup [.str [118, 97, 114], .str x]
  | .fn x b => .tup [.str [102, 117, 110], .str x, b.tree]
  | .use a b => .tup [.str [117, 115, 101], a.tree, b.tree]
def Tm.text : Tm → Sg
  | .var x => x
  | .fn x b => 40 :: (x ++ (46 :: (b.text ++ [41])))
  | .use a b => 40 :: (a.text ++ (32 :: (b.text ++ [41])))
def Tm.size : Tm → Nat
  | .var _ => 1
  | .fn _ b => 1 + b.size
  | .use a b => 1 + a.size + b.size
def Tm.vars : Tm → Nat
  | .var _ => 1
  | .fn _ b => b.vars
  | .use a b => a.vars + b.vars
def Tm.names : Tm → List Sg
  | .var x => [x]
  | .fn _ b => b.names
  | .use a b => a.names ++ b.names
def Tm.dep : Tm → Nat
  | .var _ => 1
  | .fn _ b => 1 + b.dep
  | .use a b => 1 + max a.dep b.dep
/-- a name: one or two letters -/
def okN (x : Sg) : Prop := (1 ≤ x.length ∧ x.length ≤ 4) ∧ ∀ c ∈ x, 97 ≤ c ∧ c ≤ 122
def Tm.good : Tm → Prop
  | .var x => okN x
  | .fn x b => okN x ∧ b.good
  | .use a b => a.good ∧ b.good
theorem Tm.dep_size : ∀ t : Tm, t.dep ≤ t.size
  | .var _ => Nat.le_refl _
  | .fn _ b => by
    have := b.dep_size
    simp only [Tm.dep, Tm.size]; omega
  | .use a b => by
    have := a.dep_size
    have := b.dep_size
    simp only [Tm.dep, Tm.size]; omega
theorem Tm.text_len : ∀ t : Tm, t.good → t.text.length ≤ 7 * t.size
  | .var _, g => by
    have : okN _ := g
    simp only [Tm.text, Tm.size]
    have := this.1
    omega
  | .fn x b, g => by
    have := b.text_len g.2
    have := g.1.1
    simp only [Tm.text, Tm.size, List.length_cons, List.length_append, List.length_nil]; omega
  | .use a b, g => by
    have := a.text_len g.1
    have := b.text_len g.2
    simp only [Tm.text, Tm.size, List.length_cons, List.length_append, List.length_nil]; omega
theorem Tm.eqOk : ∀ t : Tm, Z.eqOk t.tree = true
  | .var _ => rfl
  | .fn _ b => by simp [Tm.tree, Z.eqOk, Z.eqOks, b.eqOk]
  | .use a b => by simp [Tm.tree, Z.eqOk, Z.eqOks, a.eqOk, b.eqOk]
theorem Tm.depT : ∀ t : Tm, Z.dep t.tree = t.dep
  | .var _ => by simp [Tm.tree, Z.dep, Z.deps, Tm.dep]
  | .fn _ b => by simp [Tm.tree, Z.dep, Z.deps, Tm.dep, b.depT]
  | .use a b => by simp [Tm.tree, Z.dep, Z.deps, Tm.dep, a.depT, b.depT]
@[simp] theorem glb0 (n : Nat) : (Pr.sem n).glb 0 = some (.str [97, 98, 99, 100, 101, 102, 103, 104, 105, 106, 107, 108, 109, 110, 111, 112, 113, 114, 115, 116, 117, 118, 119, 120, 121, 122]) := rfl
@[simp] theorem glb1 (n : Nat) : (Pr.sem n).glb 1 = some (.int 4) := rfl
@[simp] theorem glb2 (n : Nat) : (Pr.sem n).glb 2 = some (.str [118, 97, 114]) := rfl
@[simp] theorem glb3 (n : Nat) : (Pr.sem n).glb 3 = some (.str [102, 117, 110]) := rfl
@[simp] theorem glb4 (n : Nat) : (Pr.sem n).glb 4 = some (.str [117, 115, 101]) := rfl
@[simp] theorem glb5 (n : Nat) : (Pr.sem n).glb 5 = some (.int 120) := rfl
/-! ### texts, counts -/
theorem bin_lit (f : Nat) (m : MD) (hd : Pr.defs[f]? = some m) (hs : Pr.shr f = false) : True := trivial
theorem text_of : ∀ (t : Tm) (n : Nat), t.dep + 1 ≤ n → t.good → t.text.length ≤ line → Pr.cal n 0 [.pv t.tree] [] = some (.ok (.pv (.str t.text)) [])
  | .var x, n, h, g, _ => by
    obtain ⟨n, rfl⟩ : ∃ m, n = m + 1 := ⟨n - 1, by omega⟩
    rw [cal_eq Pr n 0 m0 _ _ rfl rfl]
    simp [m0, Tm.tree, Tm.text]
  | .fn x b, n, h, g, hl => by
    obtain ⟨n, rfl⟩ : ∃ m, n = m + 1 := ⟨n - 1, by omega⟩
    rw [cal_eq Pr n 0 m0 _ _ rfl rfl]
    simp only [Tm.text, List.length_cons, List.length_append, List.length_nil] at hl
    simp only [Tm.dep] at h
    have hb := call1 (P := Pr) (f := 0) (st := []) rfl (text_of b n (by omega) g.2 (by omega))
    have l1 : 1 + x.length ≤ line := by omega
    have l2 : x.length + 1 + 1 ≤ line := by omega
    have l3 : x.length + 1 + 1 + b.text.length ≤ line := by omega
    have l4 : x.length + (b.text.length + 1) + 1 + 1 ≤ line := by omega
    simp [m0, Tm.tree, Tm.text, hb, doBin, l1, l2, l3, l4]
  | .use a b, n, h, g, hl => by
    obtain ⟨n, rfl⟩ : ∃ m, n = m + 1 := ⟨n - 1, by omega⟩
    rw [cal_eq Pr n 0 m0 _ _ rfl rfl]
    simp only [Tm.text, List.length_cons, List.length_append, List.length_nil] at hl
    simp only [Tm.dep] at h
    have ha := call1 (P := Pr) (f := 0) (st := []) rfl (text_of a n (by omega) g.1 (by omega))
    have hb := call1 (P := Pr) (f := 0) (st := []) rfl (text_of b n (by omega) g.2 (by omega))
    have l1 : 1 + a.text.length ≤ line := by omega
    have l2 : a.text.length + 1 + 1 ≤ line := by omega
    have l3 : a.text.length + 1 + 1 + b.text.length ≤ line := by omega
    have l4 : a.text.length + (b.text.length + 1) + 1 + 1 ≤ line := by omega
    simp [m0, Tm.tree, Tm.text, ha, hb, doBin, l1, l2, l3, l4]
theorem write_of : ∀ (t : Tm) (n : Nat), t.dep + 1 ≤ n → t.good → t.text.length ≤ line → Pr.cal n 8 [.pv t.tree] [] = some (.ok (.pv (.str t.text)) [])
  | .var x, n, h, g, _ => by
    obtain ⟨n, rfl⟩ : ∃ m, n = m + 1 := ⟨n - 1, by omega⟩
    rw [cal_eq Pr n 8 m8 _ _ rfl rfl]
    simp [m8, Tm.tree, Tm.text]
  | .fn x b, n, h, g, hl => by
    obtain ⟨n, rfl⟩ : ∃ m, n = m + 1 := ⟨n - 1, by omega⟩
    rw [cal_eq Pr n 8 m8 _ _ rfl rfl]
    simp only [Tm.text, List.length_cons, List.length_append, List.length_nil] at hl
    simp only [Tm.dep] at h
    have hb := call1 (P := Pr) (f := 8) (st := []) rfl (write_of b n (by omega) g.2 (by omega))
    have l1 : 1 + x.length ≤ line := by omega
    have l2 : x.length + 1 + 1 ≤ line := by omega
    have l3 : x.length + 1 + 1 + b.text.length ≤ line := by omega
    have l4 : x.length + (b.text.length + 1) + 1 + 1 ≤ line := by omega
    simp [m8, Tm.tree, Tm.text, hb, doBin, l1, l2, l3, l4]
  | .use a b, n, h, g, hl => by
    obtain ⟨n, rfl⟩ : ∃ m, n = m + 1 := ⟨n - 1, by omega⟩
    rw [cal_eq Pr n 8 m8 _ _ rfl rfl]
    simp only [Tm.text, List.length_cons, List.length_append, List.length_nil] at hl
    simp only [Tm.dep] at h
    have ha := call1 (P := Pr) (f := 8) (st := []) rfl (write_of a n (by omega) g.1 (by omega))
    have hb := call1 (P := Pr) (f := 8) (st := []) rfl (write_of b n (by omega) g.2 (by omega))
    have l1 : 1 + a.text.length ≤ line := by omega
    have l2 : a.text.length + 1 + 1 ≤ line := by omega
    have l3 : a.text.length + 1 + 1 + b.text.length ≤ line := by omega
    have l4 : a.text.length + (b.text.length + 1) + 1 + 1 ≤ line := by omega
    simp [m8, Tm.tree, Tm.text, ha, hb, doBin, l1, l2, l3, l4]
theorem cut1 (x : PV) (xs : List PV) : cut (x :: xs) (some 1) none = xs := by
  have := cut_from (x :: xs) (k := 1) (by simp)
  simpa using this
theorem slc1 (x : PV) (xs : List PV) : doSlc (.tup (x :: xs)) (some 1) none = some (.tup xs) := by
  have h : ¬ (sIx (x :: xs).length 0 (some 1) = 0 ∧ sIx (x :: xs).length (x :: xs).length none = (x :: xs).length) := by
    simp [sIx]
  have e : doSlc (.tup (x :: xs)) (some 1) none = if sIx (x :: xs).length 0 (some 1) = 0 ∧ sIx (x :: xs).length (x :: xs).length none = (x :: xs).length then none else some (.tup (cut (x :: xs) (some 1) none)) := rfl
  rw [e, if_neg h, cut1]
theorem isTup (t : Tm) : isTy .tuple t.tree = some true := by cases t <;> rfl
theorem notTup (x : Sg) : isTy .tuple (.str x) = some false := rfl
theorem many_of : ∀ (t : Tm) (n : Nat), t.dep + 1 ≤ n → Pr.cal n 6 [.pv t.tree] [] = some (.ok (.pv (.int t.vars)) [])
  | .var x, n, h => by
    obtain ⟨n, rfl⟩ : ∃ m, n = m + 1 := ⟨n - 1, by omega⟩
    rw [cal_eq Pr n 6 m6 _ _ rfl rfl]
    simp [m6, Tm.tree, Tm.vars]
  | .fn x b, n, h => by
    obtain ⟨n, rfl⟩ : ∃ m, n = m + 1 := ⟨n - 1, by omega⟩
    rw [cal_eq Pr n 6 m6 _ _ rfl rfl]
    simp only [Tm.dep] at h
    have hb := call1 (P := Pr) (f := 6) (st := []) rfl (many_of b n (by omega))
    have l : lcLoop (lcStep (Pr.sem n) (.call 6 [.var 1]) (.nm 1) [.val (.isi .tuple (.var 1))] [1] [some (.pv (Tm.fn x b).tree), none]) [.str x, b.tree] [] = some ([.pv (.int b.vars)], []) := by simp [lcLoop, noX, lcStep, wipeL, notTup, isTup, hb]
    have l' := lcV_tup (live := false) l
    rw [show (Tm.fn x b).tree = .tup [.str [102, 117, 110], .str x, b.tree] from rfl] at l' ⊢
    simp [m6, Tm.vars, slc1, optL, l', doBI, intsOf]
  | .use a b, n, h => by
    obtain ⟨n, rfl⟩ : ∃ m, n = m + 1 := ⟨n - 1, by omega⟩
    rw [cal_eq Pr n 6 m6 _ _ rfl rfl]
    simp only [Tm.dep] at h
    have ha := call1 (P := Pr) (f := 6) (st := []) rfl (many_of a n (by omega))
    have hb := call1 (P := Pr) (f := 6) (st := []) rfl (many_of b n (by omega))
    have l : lcLoop (lcStep (Pr.sem n) (.call 6 [.var 1]) (.nm 1) [.val (.isi .tuple (.var 1))] [1] [some (.pv (Tm.use a b).tree), none]) [a.tree, b.tree] [] = some ([.pv (.int a.vars), .pv (.int b.vars)], []) := by simp [lcLoop, noX, lcStep, wipeL, isTup, ha, hb]
    have l' := lcV_tup (live := false) l
    rw [show (Tm.use a b).tree = .tup [.str [117, 115, 101], a.tree, b.tree] from rfl] at l' ⊢
    simp [m6, Tm.vars, slc1, optL, l', doBI, intsOf]
end Z15
end

section
namespace Z15
open Z
section
variable {P : Prog} {n f : Nat} {st st1 : Store}
theorem trunc_len (h : st1.length = st.length) (b : Bool) : trunc st.length b st1 = st1 := by
  unfold trunc
  split
  · rw [List.take_of_length_le (by omega)]
  · rfl
theorem call_len {vs : List LV} {v : LV} (hu : unpv vs = none) (h : P.cal n f vs st = some (.ok v st1)) (hl : st1.length = st.length) : (P.sem n).call f vs st = some (.ok v st1) := by
  have h' : (P.sem n).cal f vs st = some (.ok v st1) := h
  unfold Sem.call
  rw [hu]
  cases (P.sem n).shr f <;> simp only [h', trunc_len hl]
theorem callx_len {vs : List LV} {e : Ex} (hu : unpv vs = none) (h : P.cal n f vs st = some (.ex e st1)) (hl : st1.length = st.length) : (P.sem n).call f vs st = some (.ex e st1) := by
  have h' : (P.sem n).cal f vs st = some (.ex e st1) := h
  unfold Sem.call
  rw [hu]
  cases (P.sem n).shr f <;> simp only [h', trunc_len hl]
end
/-! ### one reading -/
def isL (c : Nat) : Bool := decide (97 ≤ c) && decide (c ≤ 122)
/-- how many letters stand first, at most so many -/
def lead : Nat → Sg → Nat
  | 0, _ => 0
  | _ + 1, [] => 0
  | n + 1, c :: r => if isL c then 1 + lead n r else 0
theorem lead_le : ∀ (n : Nat) (s : Sg), lead n s ≤ n ∧ lead n s ≤ s.length
  | 0, _ => ⟨Nat.le_refl _, Nat.zero_le _⟩
  | _ + 1, [] => ⟨Nat.zero_le _, Nat.le_refl _⟩
  | n + 1, c :: r => by
    have := lead_le n r
    unfold lead
    split <;> simp <;> omega
def rd : Nat → Sg → Option (Except Sg (Tm × Sg))
  | 0, _ => none
  | n + 1, s => if 0 < lead 4 s then some (.ok (.var (s.take (lead 4 s)), s.drop (lead 4 s))) else match s with
    | [] => some (.error [])
    | c :: r => if c = 40 then (if 0 < lead 4 r ∧ (r.drop (lead 4 r)).take 1 = [46] then (match rd n (r.drop (lead 4 r + 1)) with
        | some (.ok (b, q)) => (if q.take 1 = [41] then some (.ok (.fn (r.take (lead 4 r)) b, q.drop 1)) else some (.error q))
        | o => o)
      else (match rd n r with
        | some (.ok (a, q)) => (if q.take 1 = [32] then (match rd n (q.drop 1) with
          | some (.ok (b, q2)) => (if q2.take 1 = [41] then some (.ok (.use a b, q2.drop 1)) else some (.error q2))
          | o => o) else some (.error q))
        | o => o)) else some (.error (c :: r))
/-- what is left is the end of what was there -/
theorem rd_suf : ∀ {n : Nat} {s : Sg} {r : Except Sg (Tm × Sg)}, rd n s = some r → (match r with
    | .ok (_, q) => q <:+ s
    | .error q => q <:+ s)
  | 0, _, _, h => by simp [rd] at h
  | n + 1, s, r, h => by
    unfold rd at h
    split at h
    · cases h
      exact List.drop_suffix _ _
    · split at h
      · cases h
        exact List.suffix_refl _
      · rename_i c t _h0
        have up : ∀ {q k}, q <:+ t.drop k → q <:+ c :: t := fun hq => (hq.trans (List.drop_suffix _ _)).trans (List.suffix_cons c t)
        split at h
        · split at h
          · split at h
            · rename_i b q e
              have := up (rd_suf e)
              split at h
              · cases h
                exact (List.drop_suffix _ _).trans this
              · cases h
                exact this
            · rename_i o ho
              cases r with
              | ok v =>
                obtain ⟨b, q⟩ := v
                exact absurd h (ho b q)
              | error q => exact up (rd_suf h)
          · have up0 : ∀ {q}, q <:+ t → q <:+ c :: t := fun hq => hq.trans (List.suffix_cons c t)
            split at h
            · rename_i a q e
              have s1 := rd_suf e
              split at h
              · split at h
                · rename_i b q2 e2
                  have s2 := up0 (((rd_suf e2).trans (List.drop_suffix _ _)).trans s1)
                  split at h
                  · cases h
                    exact (List.drop_suffix _ _).trans s2
                  · cases h
                    exact s2
                · rename_i o ho
                  cases r with
                  | ok v =>
                    obtain ⟨b, q2⟩ := v
                    exact absurd h (ho b q2)
                  | error q2 => exact up0 (((rd_suf h).trans (List.drop_suffix _ _)).trans s1)
              · cases h
                exact up0 s1
            · rename_i o ho
              cases r with
              | ok v =>
                obtain ⟨a, q⟩ := v
                exact absurd h (ho a q)
              | error q => exact up0 (rd_suf h)
        · cases h
          exact List.suffix_refl _
/-- enough is enough -/
theorem rd_some : ∀ (n : Nat) (s : Sg), s.count 40 < n → ∃ r, rd n s = some r
  | 0, _, h => by omega
  | n + 1, s, h => by
    have cnt : ∀ {q t : Sg}, q <:+ t → q.count 40 ≤ t.count 40 := fun h => h.sublist.count_le 40
    unfold rd
    split
    · exact ⟨_, rfl⟩
    · split
      · exact ⟨_, rfl⟩
      · rename_i c t _h0
        split
        · rename_i hc
          subst hc
          have h1 : t.count 40 < n := by
            have : (40 :: t).count 40 = t.count 40 + 1 := by simp
            omega
          split
          · obtain ⟨r, e⟩ := rd_some n (t.drop (lead 4 t + 1)) (by
              have := cnt (List.drop_suffix (lead 4 t + 1) t)
              omega)
            rw [e]
            cases r with
            | error q => exact ⟨_, rfl⟩
            | ok v =>
              obtain ⟨b, q⟩ := v
              simp only
              split <;> exact ⟨_, rfl⟩
          · obtain ⟨r, e⟩ := rd_some n t h1
            have s1 := rd_suf e
            rw [e]
            cases r with
            | error q => exact ⟨_, rfl⟩
            | ok v =>
              obtain ⟨a, q⟩ := v
              simp only at s1 ⊢
              split
              · obtain ⟨r2, e2⟩ := rd_some n (q.drop 1) (by
                  have := cnt ((List.drop_suffix 1 q).trans s1)
                  omega)
                rw [e2]
                cases r2 with
                | error q2 => exact ⟨_, rfl⟩
                | ok v2 =>
                  obtain ⟨b, q2⟩ := v2
                  simp only
                  split <;> exact ⟨_, rfl⟩
              · exact ⟨_, rfl⟩
        · exact ⟨_, rfl⟩
end Z15
end

section
namespace Z15
open Z
/-! ### the reader -/
def stR (t : Sg) (i : Int) : Store := [.ins 0 [(4, .pv (.str t)), (5, .pv (.int i))]]
theorem madeR (n : Nat) (t : Sg) : (Pr.sem (n + 2)).make 0 16 [.pv (.str t)] [] = some (.ok (.ref 0) (stR t 0)) := by kernel_rfl
theorem isR (n : Nat) (t : Sg) (i : Int) : isIns 0 (Pr.sem n).nf (.ref 0) (stR t i) = true := rfl
theorem fR4 (t : Sg) (i : Int) : getF (.ref 0) 4 (stR t i) = some (.ok (.pv (.str t)) (stR t i)) := rfl
theorem fR5 (t : Sg) (i : Int) : getF (.ref 0) 5 (stR t i) = some (.ok (.pv (.int i)) (stR t i)) := rfl
theorem sR5 (t : Sg) (i j : Int) : setFl (.ref 0) 5 (.pv (.int j)) (stR t i) = some (stR t j) := rfl
theorem cut_one (t : Sg) (k : Nat) (h : k ≤ t.length) : cut t (some (k : Int)) (some ((k : Int) + 1)) = (t.drop k).take 1 := by
  unfold cut sIx
  have h0 : ¬ ((k : Int) < 0) := by omega
  have h1 : ¬ ((k : Int) + 1 < 0) := by omega
  have h2 : ((k : Int) + 1).toNat = k + 1 := by omega
  simp only [if_neg h0, if_neg h1, h2, Int.toNat_natCast, Nat.min_eq_left h]
  by_cases h3 : k = t.length
  · subst h3; simp
  · rw [Nat.min_eq_left (by omega)]
    rw [show k + 1 - k = 1 by omega]
section
variable {n : Nat} {t : Sg} {k : Nat}
theorem sign_of (hl : t.length ≤ line) (hk : k ≤ t.length) : (Pr.sem (n + 1)).call 17 [.ref 0] (stR t k) = some (.ok (.pv (.str ((t.drop k).take 1))) (stR t k)) := by
  refine call_len (P := Pr) rfl ?_ rfl
  rw [cal_eq Pr n 17 m17 _ _ rfl rfl]
  simp [m17, isR, fR4, fR5, optL, doSlc, hl, cut_one t k hk]
theorem take_of {al r : Sg} {c : Nat} (hl : t.length ≤ line) (hd : t.drop k = c :: r) (hc : c ∈ al) : (Pr.sem (n + 2)).call 18 [.ref 0, .pv (.str al)] (stR t k) = some (.ok (.pv (.str [c])) (stR t ((k : Int) + 1))) := by
  have hk : k ≤ t.length := by
    have := congrArg List.length hd
    rw [List.length_drop] at this
    simp at this
    omega
  have s := sign_of (n := n) hl hk
  rw [hd] at s
  simp only [List.take_succ_cons, List.take_zero] at s
  refine call_len (P := Pr) rfl ?_ rfl
  rw [cal_eq Pr (n + 1) 18 m18 _ _ rfl rfl]
  have hin : doCmp .nin (.str [c]) (.str al) = some (!decide (c ∈ al)) := rfl
  have ad : ∀ i j : Int, doAug .add (.int i) (.int j) = some (.int (i + j)) := fun _ _ => rfl
  simp [m18, isR, s, hin, hc, fR5, sR5, ad]
theorem end_of (hl : t.length ≤ line) (hk : k = t.length) : (Pr.sem (n + 2)).call 20 [.ref 0] (stR t k) = some (.ok (.pv .non) (stR t k)) := by
  have s := sign_of (n := n) (t := t) (k := k) hl (by omega)
  have hd : t.drop k = [] := by simp [hk]
  rw [hd] at s
  simp only [List.take_nil] at s
  refine call_len (P := Pr) rfl ?_ rfl
  rw [cal_eq Pr (n + 1) 20 m20 _ _ rfl rfl]
  simp [m20, isR, s]
theorem xin1 : (Pr.sem n).xin 1 = some (1, [(0, 0)]) := rfl
def bad (k : Nat) : Ex := ⟨1, [(0, .int (k : Int))]⟩
theorem take_no {al : Sg} (hl : t.length ≤ line) (hk : k ≤ t.length) (h : ∀ c r, t.drop k = c :: r → c ∉ al) : (Pr.sem (n + 2)).call 18 [.ref 0, .pv (.str al)] (stR t k) = some (.ex (bad k) (stR t k)) := by
  have s := sign_of (n := n) hl hk
  refine callx_len (P := Pr) rfl ?_ rfl
  rw [cal_eq Pr (n + 1) 18 m18 _ _ rfl rfl]
  have hin : ∀ c, doCmp .nin (.str [c]) (.str al) = some (!decide (c ∈ al)) := fun _ => rfl
  cases hd : t.drop k with
  | nil =>
    rw [hd] at s
    simp only [List.take_nil] at s
    simp [m18, isR, s, fR5, xin1, extP, bad]
  | cons c r =>
    rw [hd] at s
    simp only [List.take_succ_cons, List.take_zero] at s
    have hc := h c r hd
    simp [m18, isR, s, hin, hc, fR5, xin1, extP, bad]
theorem end_no {c : Nat} {r : Sg} (hl : t.length ≤ line) (hk : k ≤ t.length) (hd : t.drop k = c :: r) : (Pr.sem (n + 2)).call 20 [.ref 0] (stR t k) = some (.ex (bad k) (stR t k)) := by
  have s := sign_of (n := n) hl hk
  rw [hd] at s
  simp only [List.take_succ_cons, List.take_zero] at s
  refine callx_len (P := Pr) rfl ?_ rfl
  rw [cal_eq Pr (n + 1) 20 m20 _ _ rfl rfl]
  simp [m20, isR, s, fR5, xin1, extP, bad]
end
abbrev abc : Sg := [97, 98, 99, 100, 101, 102, 103, 104, 105, 106, 107, 108, 109, 110, 111, 112, 113, 114, 115, 116, 117, 118, 119, 120, 121, 122]
theorem mem_abc (c : Nat) : c ∈ abc ↔ 97 ≤ c ∧ c ≤ 122 := by
  simp only [abc, List.mem_cons, List.not_mem_nil, or_false]
  omega
/-- no letter stands there -/
def stops : Sg → Prop
  | [] => True
  | c :: _ => ¬ (97 ≤ c ∧ c ≤ 122)
theorem drop_more {t : Sg} {k : Nat} {x r : Sg} (h : t.drop k = x ++ r) : t.drop (k + x.length) = r := by
  have := congrArg (List.drop x.length) h
  rw [List.drop_drop, List.drop_left] at this
  exact this
theorem drop_le {t : Sg} {k : Nat} {c : Nat} {r : Sg} (h : t.drop k = c :: r) : k + 1 ≤ t.length := by
  have := congrArg List.length h
  rw [List.length_drop] at this
  simp at this
  omega
theorem whLoop_false {c : Slots → Store → Option ET} {b : Slots → Store → Option FR} {n : Nat} {φ : Slots} {st : Store} (h : c φ st = some (.ok false st)) : whLoop c b (n + 1) φ st = some (.nx φ st) := by
  simp [whLoop, h, T.bf]
theorem whLoop_true {c : Slots → Store → Option ET} {b : Slots → Store → Option FR} {n : Nat} {φ φ' : Slots} {st st' : Store} (h : c φ st = some (.ok true st)) (h2 : b φ st = some (.nx φ' st')) : whLoop c b (n + 1) φ st = whLoop c b n φ' st' := by
  simp [whLoop, h, h2, T.bf]
theorem isL_abc {c : Nat} : isL c = true ↔ c ∈ abc := by
  rw [mem_abc]
  simp [isL]
theorem lead_lt : ∀ (n : Nat) (s : Sg) (j : Nat), j < lead n s → ∃ c r, s.drop j = c :: r ∧ isL c = true
  | 0, _, _, h => by simp [lead] at h
  | _ + 1, [], _, h => by simp [lead] at h
  | n + 1, c :: r, j, h => by
    unfold lead at h
    split at h
    · rename_i hc
      cases j with
      | zero => exact ⟨c, r, rfl, hc⟩
      | succ j =>
        obtain ⟨d, q, e, hd⟩ := lead_lt n r j (by omega)
        exact ⟨d, q, e, hd⟩
    · omega
theorem lead_at : ∀ (n : Nat) (s : Sg), lead n s < n → ∀ c r, s.drop (lead n s) = c :: r → isL c = false
  | 0, _, h => by omega
  | _ + 1, [], _ => by simp
  | n + 1, d :: q, h => by
    unfold lead at h ⊢
    split
    · rename_i hd
      rw [if_pos hd] at h
      rw [show 1 + lead n q = lead n q + 1 by omega, List.drop_succ_cons]
      exact lead_at n q (by omega)
    · rename_i hd
      intro c r e
      simp at e
      rw [← e.1]
      simpa using hd
theorem take_more : ∀ (s : Sg) (j c : Nat) (r : Sg), s.drop j = c :: r → s.take (j + 1) = s.take j ++ [c]
  | [], j, c, r, h => by simp at h
  | x :: s, 0, c, r, h => by
    simp at h
    simp [h.1]
  | x :: s, j + 1, c, r, h => by
    have := take_more s j c r (by simpa using h)
    simp [this]
abbrev nameT : MT := .boolop true [.cmp .ne (.mcall 0 17 (.var 0) []) (.lit (.str [])), .cmp .in_ (.mcall 0 17 (.var 0) []) (.glb 0), .cmp .lt (.bi .len [.var 1]) (.glb 1)]
abbrev nameB : List MS := [.aug 1 .add (.mcall 0 18 (.var 0) [.glb 0])]
theorem name_loop {n : Nat} {t : Sg} {k : Nat} (hl : t.length ≤ line) (hk : k ≤ t.length) : ∀ (m j F : Nat), j + m = 4 → 1 ≤ j → j ≤ lead 4 (t.drop k) →
    whLoop (evT (Pr.sem (n + 2)) nameT) (exSs (Pr.sem (n + 2)) nameB) (F + m + 1) [some (.ref 0), some (.pv (.str ((t.drop k).take j)))] (stR t ((k + j : Nat) : Int)) = some (.nx [some (.ref 0), some (.pv (.str ((t.drop k).take (lead 4 (t.drop k)))))] (stR t ((k + lead 4 (t.drop k) : Nat) : Int))) := by
  have hin : ∀ c, doCmp .in_ (.str [c]) (.str abc) = some (decide (c ∈ abc)) := fun _ => rfl
  obtain ⟨le4, les⟩ := lead_le 4 (t.drop k)
  have lens : (t.drop k).length = t.length - k := List.length_drop
  have stop : ∀ j, j ≤ lead 4 (t.drop k) → (4 ≤ j ∨ ∀ c r, t.drop (k + j) = c :: r → isL c = false) → evT (Pr.sem (n + 2)) nameT [some (.ref 0), some (.pv (.str ((t.drop k).take j)))] (stR t ((k + j : Nat) : Int)) = some (.ok false (stR t ((k + j : Nat) : Int))) := by
    intro j hj h
    have s := sign_of (n := n + 1) (t := t) (k := k + j) hl (by omega)
    have l1 : doBI .len [.str ((t.drop k).take j)] = some (.int j) := by
      rw [len_str (by rw [List.length_take]; omega), List.length_take, Nat.min_eq_left (by omega)]
    generalize (t.drop k).take j = y at l1 ⊢
    generalize ((k + j : Nat) : Int) = i at s ⊢
    cases hd : t.drop (k + j) with
    | nil =>
      rw [hd] at s
      simp only [List.take_nil] at s
      simp [isR, s]
    | cons c r =>
      rw [hd] at s
      simp only [List.take_succ_cons, List.take_zero] at s
      rcases h with h | h
      · have h' : ¬ (j : Int) < 4 := by omega
        by_cases hc : c ∈ abc <;> simp [isR, s, hin, hc, l1, h']
      · have hc : ¬ c ∈ abc := fun hm => by
          have := isL_abc.mpr hm
          rw [h c r hd] at this
          cases this
        simp [isR, s, hin, hc]
  intro m
  induction m with
  | zero =>
    intro j F h1 h2 h3
    have hj : j = 4 := by omega
    have e : lead 4 (t.drop k) = j := by omega
    rw [whLoop_false (stop j h3 (.inl (by omega))), e]
  | succ m ih =>
    intro j F h1 h2 h3
    by_cases hj : j < lead 4 (t.drop k)
    · obtain ⟨c, r, hd, hc⟩ := lead_lt 4 _ j hj
      have tm := take_more _ j c r hd
      rw [List.drop_drop] at hd
      have s := sign_of (n := n + 1) (t := t) (k := k + j) hl (by omega)
      rw [hd] at s
      simp only [List.take_succ_cons, List.take_zero] at s
      have hm : c ∈ abc := isL_abc.mp hc
      have tk := take_of (n := n) (al := abc) hl hd hm
      have l1 : doBI .len [.str ((t.drop k).take j)] = some (.int j) := by
        rw [len_str (by rw [List.length_take]; omega), List.length_take, Nat.min_eq_left (by omega)]
      have au : doAug .add (.str ((t.drop k).take j)) (.str [c]) = some (.str ((t.drop k).take (j + 1))) := by
        rw [tm]
        exact cat_str (by rw [List.length_take, line_eq]; simp; omega)
      have i := ih (j + 1) F (by omega) (by omega) hj
      have e2 : ((k + j : Nat) : Int) + 1 = ((k + (j + 1) : Nat) : Int) := by push_cast; omega
      rw [e2] at tk
      have hj4 : (j : Int) < 4 := by omega
      have g1 : evT (Pr.sem (n + 2)) nameT [some (.ref 0), some (.pv (.str ((t.drop k).take j)))] (stR t ((k + j : Nat) : Int)) = some (.ok true (stR t ((k + j : Nat) : Int))) := by
        generalize (t.drop k).take j = y at l1 ⊢
        generalize ((k + j : Nat) : Int) = i at s ⊢
        simp [isR, s, hin, hm, l1, hj4]
      have g2 : exSs (Pr.sem (n + 2)) nameB [some (.ref 0), some (.pv (.str ((t.drop k).take j)))] (stR t ((k + j : Nat) : Int)) = some (.nx [some (.ref 0), some (.pv (.str ((t.drop k).take (j + 1))))] (stR t ((k + (j + 1) : Nat) : Int))) := by
        generalize (t.drop k).take j = y at au ⊢
        generalize (t.drop k).take (j + 1) = z at au ⊢
        generalize ((k + j : Nat) : Int) = i at tk ⊢
        generalize ((k + (j + 1) : Nat) : Int) = i' at tk ⊢
        simp [isR, tk, au]
      rw [show F + (m + 1) + 1 = (F + m + 1) + 1 by omega, whLoop_true g1 g2]
      exact i
    · have e : lead 4 (t.drop k) = j := by omega
      have sp := stop j h3 (.inr fun c r hd => by
        refine lead_at 4 (t.drop k) (by omega) c r ?_
        rw [e, List.drop_drop]; exact hd)
      rw [whLoop_false sp, e]
theorem name_yes {n : Nat} {t : Sg} {k : Nat} (hl : t.length ≤ line) (hk : k ≤ t.length) (h : 0 < lead 4 (t.drop k)) : (Pr.sem (n + 3)).call 19 [.ref 0] (stR t k) = some (.ok (.pv (.str ((t.drop k).take (lead 4 (t.drop k))))) (stR t ((k + lead 4 (t.drop k) : Nat) : Int))) := by
  refine call_len (P := Pr) rfl ?_ rfl
  rw [cal_eq Pr (n + 2) 19 m19 _ _ rfl rfl]
  obtain ⟨c, r, hd, hc⟩ := lead_lt 4 _ 0 h
  have e1 : (t.drop k).take 1 = [c] := by rw [List.drop_zero] at hd; rw [hd]; rfl
  rw [List.drop_zero] at hd
  have tk := take_of (n := n) (al := abc) hl hd (isL_abc.mp hc)
  have lp := name_loop (n := n) hl hk 3 1 996 rfl (Nat.le_refl _) h
  rw [e1] at lp
  have wf : (Pr.sem (n + 2)).wf = 996 + 3 + 1 := rfl
  rw [show ((k + 1 : Nat) : Int) = (k : Int) + 1 by push_cast; rfl] at lp
  generalize ((k + lead 4 (t.drop k) : Nat) : Int) = i at lp ⊢
  generalize (t.drop k).take (lead 4 (t.drop k)) = y at lp ⊢
  simp only [nameT, nameB] at lp
  simp [m19, isR, tk, wf, lp]
theorem name_no {n : Nat} {t : Sg} {k : Nat} (hl : t.length ≤ line) (hk : k ≤ t.length) (h : lead 4 (t.drop k) = 0) : (Pr.sem (n + 3)).call 19 [.ref 0] (stR t k) = some (.ex (bad k) (stR t k)) := by
  refine callx_len (P := Pr) rfl ?_ rfl
  rw [cal_eq Pr (n + 2) 19 m19 _ _ rfl rfl]
  have tk := take_no (n := n) (al := abc) hl hk fun c r hd hm => by
    have := isL_abc.mpr hm
    rw [hd] at h
    simp [lead, this] at h
  simp [m19, isR, tk]
end Z15
end

section
namespace Z15
open Z
/-! ### the program's reading of any text -/
def rs (t : Sg) : Except Sg (Tm × Sg) → ER
  | .ok (tm, q) => .ok (.pv tm.tree) (stR t ((t.length - q.length : Nat) : Int))
  | .error q => .ex (bad (t.length - q.length)) (stR t ((t.length - q.length : Nat) : Int))
theorem call_rs {n : Nat} {t : Sg} {i : Int} {r : Except Sg (Tm × Sg)} (h : Pr.cal n 21 [.ref 0] (stR t i) = some (rs t r)) : (Pr.sem n).call 21 [.ref 0] (stR t i) = some (rs t r) := by
  cases r with
  | ok v =>
    obtain ⟨tm, q⟩ := v
    exact call_len (P := Pr) rfl h rfl
  | error q => exact callx_len (P := Pr) rfl h rfl
theorem drop_pos {t q : Sg} (h : q <:+ t) : t.drop (t.length - q.length) = q := (List.suffix_iff_eq_drop.mp h).symm
theorem take_at {n : Nat} {t q : Sg} (c : Nat) (hl : t.length ≤ line) (h : q <:+ t) : (Pr.sem (n + 2)).call 18 [.ref 0, .pv (.str [c])] (stR t ((t.length - q.length : Nat) : Int)) = some (if q.take 1 = [c] then .ok (.pv (.str [c])) (stR t ((t.length - (q.drop 1).length : Nat) : Int)) else .ex (bad (t.length - q.length)) (stR t ((t.length - q.length : Nat) : Int))) := by
  have hd := drop_pos h
  have hq := h.length_le
  cases q with
  | nil =>
    rw [if_neg (by simp)]
    exact take_no hl (by omega) fun d r e => by rw [hd] at e; cases e
  | cons d r =>
    by_cases hc : d = c
    · subst hc
      rw [if_pos (by simp)]
      rw [take_of (n := n) (al := [d]) hl hd (by simp)]
      simp only [List.length_cons] at hq
      rw [show ((t.length - (d :: r).length : Nat) : Int) + 1 = ((t.length - ((d :: r).drop 1).length : Nat) : Int) by simp only [List.length_cons, List.drop_succ_cons, List.drop_zero]; omega]
    · rw [if_neg (by simp [hc])]
      exact take_no hl (by omega) fun e r' he => by
        rw [hd] at he
        cases he
        simpa using hc
/-- the second of a use -/
def rdU (n : Nat) (a : Tm) (q : Sg) : Option (Except Sg (Tm × Sg)) := if q.take 1 = [32] then (match rd n (q.drop 1) with
    | some (.ok (b, q2)) => (if q2.take 1 = [41] then some (.ok (.use a b, q2.drop 1)) else some (.error q2))
    | o => o) else some (.error q)
theorem use_tail {n m : Nat} {t : Sg} (hl : t.length ≤ line) (ih : ∀ (k : Nat) (r : Except Sg (Tm × Sg)), k ≤ t.length → rd n (t.drop k) = some r → (Pr.sem (m + 2)).call 21 [.ref 0] (stR t k) = some (rs t r)) (a : Tm) (q : Sg) (hq : q <:+ t) (r : Except Sg (Tm × Sg)) (h : rdU n a q = some r) (a1 a3 a4 : Option LV) :
    endR (exSs (Pr.sem (m + 2)) [.ex (.mcall 0 18 (.var 0) [.lit (.str [32])]), .asg (.nm 1) (.mcall 0 21 (.var 0) []), .ex (.mcall 0 18 (.var 0) [.lit (.str [41])]), .ret (.tup [.glb 4, .var 2, .var 1])] [some (.ref 0), a1, some (.pv a.tree), a3, a4] (stR t ((t.length - q.length : Nat) : Int))) = some (rs t r) := by
  have t1 := take_at (n := m) 32 hl hq
  unfold rdU at h
  split at h
  · rename_i h32
    rw [if_pos h32] at t1
    have hq1 : q.drop 1 <:+ t := (List.drop_suffix 1 q).trans hq
    have hd := drop_pos hq1
    have ih1 := fun r1 (e : rd n (q.drop 1) = some r1) => ih (t.length - (q.drop 1).length) r1 (by omega) (by rw [hd]; exact e)
    split at h
    · rename_i b q2 e
      have c1 := ih1 _ e
      have s2 : q2 <:+ t := (rd_suf e).trans hq1
      have t2 := take_at (n := m) 41 hl s2
      simp only [rs] at c1
      split at h
      · rename_i h41
        rw [if_pos h41] at t2
        cases h
        simp only [rs]
        generalize ((t.length - q.length : Nat) : Int) = j1 at *
        generalize ((t.length - (q.drop 1).length : Nat) : Int) = j2 at *
        generalize ((t.length - q2.length : Nat) : Int) = j3 at *
        generalize ((t.length - (q2.drop 1).length : Nat) : Int) = j4 at *
        simp [isR, t1, c1, t2, Tm.tree]
      · rename_i h41
        rw [if_neg h41] at t2
        cases h
        simp only [rs]
        generalize bad (t.length - q2.length) = bb at *
        generalize ((t.length - q.length : Nat) : Int) = j1 at *
        generalize ((t.length - (q.drop 1).length : Nat) : Int) = j2 at *
        generalize ((t.length - q2.length : Nat) : Int) = j3 at *
        simp [isR, t1, c1, t2]
    · rename_i o ho
      cases r with
      | ok v =>
        obtain ⟨b, q2⟩ := v
        exact absurd h (ho b q2)
      | error q2 =>
        have c1 := ih1 _ h
        simp only [rs] at c1 ⊢
        generalize bad (t.length - q2.length) = bb at *
        generalize ((t.length - q.length : Nat) : Int) = j1 at *
        generalize ((t.length - (q.drop 1).length : Nat) : Int) = j2 at *
        generalize ((t.length - q2.length : Nat) : Int) = j3 at *
        simp [isR, t1, c1]
  · rename_i h32
    rw [if_neg h32] at t1
    cases h
    simp only [rs]
    generalize bad (t.length - q.length) = bb at *
    generalize ((t.length - q.length : Nat) : Int) = j1 at *
    simp [isR, t1]
/-- a fun, behind its point -/
def rdF (n : Nat) (x q : Sg) : Option (Except Sg (Tm × Sg)) := match rd n q with
    | some (.ok (b, q2)) => (if q2.take 1 = [41] then some (.ok (.fn x b, q2.drop 1)) else some (.error q2))
    | o => o
def Ends (x : Option FR) (r : ER) : Prop := (∃ v st, x = some (.rt v st) ∧ r = .ok v st) ∨ ∃ e φ st, x = some (.ex e φ st) ∧ r = .ex e st
theorem Ends.out {x : Option FR} {r : ER} (h : Ends x r) (k) : endR (seqS k x) = some r := by
  rcases h with ⟨v, st, rfl, rfl⟩ | ⟨e, φ, st, rfl, rfl⟩ <;> simp
abbrev funS : List MS := [.asg (.nm 4) (.mcall 0 21 (.var 0) []), .ex (.mcall 0 18 (.var 0) [.lit (.str [41])]), .ret (.tup [.glb 3, .var 3, .var 4])]
theorem fun_tail {n m : Nat} {t : Sg} (hl : t.length ≤ line) (ih : ∀ (k : Nat) (r : Except Sg (Tm × Sg)), k ≤ t.length → rd n (t.drop k) = some r → (Pr.sem (m + 2)).call 21 [.ref 0] (stR t k) = some (rs t r)) (x q : Sg) (hq : q <:+ t) (r : Except Sg (Tm × Sg)) (h : rdF n x q = some r) (a1 a2 a4 : Option LV) :
    Ends (exSs (Pr.sem (m + 2)) funS [some (.ref 0), a1, a2, some (.pv (.str x)), a4] (stR t ((t.length - q.length : Nat) : Int))) (rs t r) := by
  unfold rdF at h
  have hd := drop_pos hq
  have ih1 := fun r1 (e : rd n q = some r1) => ih (t.length - q.length) r1 (by omega) (by rw [hd]; exact e)
  split at h
  · rename_i b q2 e
    have c1 := ih1 _ e
    have s2 : q2 <:+ t := (rd_suf e).trans hq
    have t2 := take_at (n := m) 41 hl s2
    simp only [rs] at c1
    split at h
    · rename_i h41
      rw [if_pos h41] at t2
      cases h
      refine .inl ⟨.pv (Tm.fn x b).tree, stR t ((t.length - (q2.drop 1).length : Nat) : Int), ?_, rfl⟩
      generalize ((t.length - q.length : Nat) : Int) = j1 at *
      generalize ((t.length - q2.length : Nat) : Int) = j3 at *
      generalize ((t.length - (q2.drop 1).length : Nat) : Int) = j4 at *
      simp [isR, c1, t2, Tm.tree]
    · rename_i h41
      rw [if_neg h41] at t2
      cases h
      refine .inr ⟨bad (t.length - q2.length), [some (.ref 0), a1, a2, some (.pv (.str x)), some (.pv b.tree)], stR t ((t.length - q2.length : Nat) : Int), ?_, rfl⟩
      generalize bad (t.length - q2.length) = bb at *
      generalize ((t.length - q.length : Nat) : Int) = j1 at *
      generalize ((t.length - q2.length : Nat) : Int) = j3 at *
      simp [isR, c1, t2]
  · rename_i o ho
    cases r with
    | ok v =>
      obtain ⟨b, q2⟩ := v
      exact absurd h (ho b q2)
    | error q2 =>
      have c1 := ih1 _ h
      simp only [rs] at c1
      refine .inr ⟨bad (t.length - q2.length), [some (.ref 0), a1, a2, some (.pv (.str x)), a4], stR t ((t.length - q2.length : Nat) : Int), ?_, rfl⟩
      generalize bad (t.length - q2.length) = bb at *
      generalize ((t.length - q.length : Nat) : Int) = j1 at *
      generalize ((t.length - q2.length : Nat) : Int) = j3 at *
      simp [isR, c1]
theorem rd_eq (n : Nat) (s : Sg) : rd (n + 1) s = if 0 < lead 4 s then some (.ok (.var (s.take (lead 4 s)), s.drop (lead 4 s))) else match s with
    | [] => some (.error [])
    | c :: r => if c = 40 then (if 0 < lead 4 r ∧ (r.drop (lead 4 r)).take 1 = [46] then rdF n (r.take (lead 4 r)) (r.drop (lead 4 r + 1))
      else (match rd n r with
        | some (.ok (a, q)) => rdU n a q
        | o => o)) else some (.error (c :: r)) := by
  cases s <;> rfl
theorem lead_head {s : Sg} (h : 0 < lead 4 s) : ∃ c r, s = c :: r ∧ isL c = true ∧ c ≠ 40 := by
  obtain ⟨c, r, hd, hc⟩ := lead_lt 4 s 0 h
  refine ⟨c, r, by simpa using hd, hc, fun e => ?_⟩
  subst e
  cases hc
theorem term_any : ∀ (n : Nat) (t : Sg) (k : Nat) (r : Except Sg (Tm × Sg)), t.length ≤ line → k ≤ t.length → rd n (t.drop k) = some r → Pr.cal (n + 3) 21 [.ref 0] (stR t k) = some (rs t r)
  | 0, _, _, _, _, _, h => by simp [rd] at h
  | n + 1, t, k, r, hl, hk, h => by
    rw [cal_eq Pr (n + 3) 21 m21 _ _ rfl rfl, show m21.nn - m21.ar = 4 from rfl]
    have ih := fun (k : Nat) (r : Except Sg (Tm × Sg)) (hk : k ≤ t.length) (e : rd n (t.drop k) = some r) => call_rs (term_any n t k r hl hk e)
    have eb : m21.body = .iff (.cmp .ne (.mcall 0 17 (.var 0) []) (.lit (.str [40]))) [.ret (.tup [.glb 2, .mcall 0 19 (.var 0) []])] [] :: .ex (.mcall 0 18 (.var 0) [.lit (.str [40])]) :: .iff (.cmp .eq (.mcall 0 17 (.var 0) []) (.lit (.str [40]))) [.asg (.nm 2) (.mcall 0 21 (.var 0) [])] [.asg (.nm 3) (.mcall 0 19 (.var 0) []), .iff (.cmp .eq (.mcall 0 17 (.var 0) []) (.lit (.str [46]))) (.ex (.mcall 0 18 (.var 0) [.lit (.str [46])]) :: funS) [], .asg (.nm 2) (.tup [.glb 2, .var 3])] :: [.ex (.mcall 0 18 (.var 0) [.lit (.str [32])]), .asg (.nm 1) (.mcall 0 21 (.var 0) []), .ex (.mcall 0 18 (.var 0) [.lit (.str [41])]), .ret (.tup [.glb 4, .var 2, .var 1])] := rfl
    rw [eb]
    have ut := fun (a : Tm) (q : Sg) (hq : q <:+ t) (r : Except Sg (Tm × Sg)) (h : rdU n a q = some r) (a1 a3 a4 : Option LV) => use_tail (n := n) (m := n + 1) hl ih a q hq r h a1 a3 a4
    have ft := fun (x q : Sg) (hq : q <:+ t) (r : Except Sg (Tm × Sg)) (h : rdF n x q = some r) (a1 a2 a4 : Option LV) => fun_tail (n := n) (m := n + 1) hl ih x q hq r h a1 a2 a4
    generalize ([.ex (.mcall 0 18 (.var 0) [.lit (.str [32])]), .asg (.nm 1) (.mcall 0 21 (.var 0) []), .ex (.mcall 0 18 (.var 0) [.lit (.str [41])]), .ret (.tup [.glb 4, .var 2, .var 1])] : List MS) = tailS at ut ⊢
    generalize (funS : List MS) = funL at ft ⊢
    have hkl : (t.drop k).length = t.length - k := List.length_drop
    have s0 := sign_of (n := n + 2) hl hk
    rw [rd_eq] at h
    by_cases h0 : 0 < lead 4 (t.drop k)
    · rw [if_pos h0] at h
      cases h
      obtain ⟨c, q, e, _, hc⟩ := lead_head h0
      have ny := name_yes (n := n) hl hk h0
      have le := lead_le 4 (t.drop k)
      have ep : t.length - ((t.drop k).drop (lead 4 (t.drop k))).length = k + lead 4 (t.drop k) := by
        rw [List.length_drop, hkl]
        omega
      simp only [rs]
      rw [ep]
      generalize ((k + lead 4 (t.drop k) : Nat) : Int) = j at *
      generalize (t.drop k).take (lead 4 (t.drop k)) = y at *
      rw [e] at s0
      simp only [List.take_succ_cons, List.take_zero] at s0
      simp [isR, s0, hc, ny, Tm.tree]
    · rw [if_neg h0] at h
      have h00 : lead 4 (t.drop k) = 0 := by omega
      have nn := name_no (n := n) hl hk h00
      cases hs : t.drop k with
      | nil =>
        rw [hs] at h s0
        cases h
        have hkk : t.length - ([] : Sg).length = k := by
          rw [hs] at hkl
          simp at hkl ⊢
          omega
        simp only [rs]
        rw [hkk]
        simp only [List.take_nil] at s0
        simp [isR, s0, nn]
      | cons c q =>
        have hpk : t.length - (c :: q).length = k := by
          rw [hs] at hkl
          omega
        rw [hs] at h s0
        simp only [List.take_succ_cons, List.take_zero] at s0
        simp only at h
        by_cases hc : c = 40
        · rw [if_pos hc] at h
          subst hc
          have hk1 := drop_le hs
          have t0 := take_of (n := n + 1) (al := [40]) hl hs (by simp)
          have hq : t.drop (k + 1) = q := drop_more (x := [40]) hs
          have hqs : q <:+ t := hq ▸ List.drop_suffix _ _
          have e1 : (k : Int) + 1 = ((k + 1 : Nat) : Int) := by push_cast; rfl
          rw [e1] at t0
          have hql : q.length = t.length - (k + 1) := by rw [← hq, List.length_drop]
          have s1 := sign_of (n := n + 2) (t := t) (k := k + 1) hl hk1
          rw [hq] at s1
          by_cases he : 0 < lead 4 q
          · obtain ⟨d, q', eq, _, hd⟩ := lead_head he
            have ny := name_yes (n := n) (t := t) (k := k + 1) hl hk1 (by rw [hq]; exact he)
            rw [hq] at ny
            have le := lead_le 4 q
            have hp : k + 1 + lead 4 q = t.length - (q.drop (lead 4 q)).length := by
              rw [List.length_drop]
              omega
            have hds : q.drop (lead 4 q) <:+ t := (List.drop_suffix _ _).trans hqs
            rw [hp] at ny
            have s2 := sign_of (n := n + 2) (t := t) (k := t.length - (q.drop (lead 4 q)).length) hl (by omega)
            rw [drop_pos hds] at s2
            have s1' : q.take 1 = [d] := by rw [eq]; rfl
            rw [s1'] at s1
            have t2 := take_at (n := n + 1) 46 hl hds
            by_cases hpt : (q.drop (lead 4 q)).take 1 = [46]
            · rw [if_pos ⟨he, hpt⟩] at h
              rw [if_pos hpt] at t2
              have hdd : (q.drop (lead 4 q)).drop 1 = q.drop (lead 4 q + 1) := List.drop_drop
              rw [hdd] at t2
              have f := ft (q.take (lead 4 q)) (q.drop (lead 4 q + 1)) ((List.drop_suffix _ _).trans hqs) r h none none none
              rw [hpt] at s2
              generalize q.take (lead 4 q) = y at *
              generalize ((t.length - (q.drop (lead 4 q)).length : Nat) : Int) = j2 at *
              generalize ((t.length - (q.drop (lead 4 q + 1)).length : Nat) : Int) = j3 at *
              generalize ((k + 1 : Nat) : Int) = j1 at *
              have out := fun k' k2 => (show endR (seqS k' (seqS k2 (exSs (Pr.sem (n + 3)) funL [some (.ref 0), none, none, some (.pv (.str y)), none] (stR t j3)))) = some (rs t r) from by
                rcases f with ⟨v, st, e, e2⟩ | ⟨e', φ, st, e, e2⟩ <;> rw [e, e2] <;> simp)
              simp [isR, s0, t0, s1, hd, ny, s2, t2, out]
            · rw [if_neg fun h => hpt h.2] at h
              cases n with
              | zero => simp [rd] at h
              | succ n' =>
                rw [rd_eq n' q, if_pos he] at h
                simp only at h
                have u := ut (.var (q.take (lead 4 q))) (q.drop (lead 4 q)) hds r h none (some (.pv (.str (q.take (lead 4 q))))) none
                simp only [Tm.tree] at u
                generalize (q.drop (lead 4 q)).take 1 = z at *
                generalize q.take (lead 4 q) = y at *
                generalize ((t.length - (q.drop (lead 4 q)).length : Nat) : Int) = j2 at *
                generalize ((k + 1 : Nat) : Int) = j1 at *
                simp [isR, s0, t0, s1, hd, ny, s2, hpt, u]
          · rw [if_neg fun h => he h.1] at h
            have he0 : lead 4 q = 0 := by omega
            have hp1 : t.length - q.length = k + 1 := by omega
            by_cases hz : q.take 1 = [40]
            · rw [hz] at s1
              cases hr : rd n q with
              | none => rw [hr] at h; cases h
              | some r1 =>
                have c1 := ih (k + 1) r1 hk1 (by rw [hq]; exact hr)
                rw [hr] at h
                cases r1 with
                | ok v =>
                  obtain ⟨a, q1⟩ := v
                  have u := ut a q1 ((rd_suf hr).trans hqs) r h none none none
                  simp only [rs] at c1
                  generalize ((t.length - q1.length : Nat) : Int) = j2 at *
                  generalize ((k + 1 : Nat) : Int) = j1 at *
                  simp [isR, s0, t0, s1, c1, u]
                | error q1 =>
                  simp only at h
                  cases h
                  simp only [rs] at c1 ⊢
                  generalize bad (t.length - q1.length) = bb at *
                  generalize ((t.length - q1.length : Nat) : Int) = j2 at *
                  generalize ((k + 1 : Nat) : Int) = j1 at *
                  simp [isR, s0, t0, s1, c1]
            · have nn1 := name_no (n := n) (t := t) (k := k + 1) hl hk1 (by rw [hq]; exact he0)
              cases n with
              | zero => simp [rd] at h
              | succ n' =>
                have er : rd (n' + 1) q = some (.error q) := by
                  rw [rd_eq, if_neg (by omega)]
                  cases q with
                  | nil => rfl
                  | cons d q' =>
                    simp only
                    rw [if_neg (by simpa using hz)]
                rw [er] at h
                cases h
                simp only [rs]
                rw [hp1]
                generalize q.take 1 = z at *
                generalize bad (k + 1) = bb at *
                generalize ((k + 1 : Nat) : Int) = j1 at *
                simp [isR, s0, t0, s1, hz, nn1]
        · rw [if_neg hc] at h
          cases h
          simp only [rs]
          rw [hpk]
          simp [isR, s0, hc, nn]
end Z15
end

section
namespace Z15
open Z
/-! ### the law's reading of any text -/
abbrev endT : MT := .boolop true [.cmp .lt (.var 2) (.bi .len [.var 0]), .cmp .lt (.var 2) (.bin .add (.var 1) (.lit (.int 4))), .cmp .in_ (.idx (.var 0) (.var 2)) (.lit (.str [97, 98, 99, 100, 101, 102, 103, 104, 105, 106, 107, 108, 109, 110, 111, 112, 113, 114, 115, 116, 117, 118, 119, 120, 121, 122]))]
abbrev endB : List MS := [.aug 2 .add (.lit (.int 1))]
theorem end_loop (S : Sem) {t : Sg} {k : Nat} (hl : t.length ≤ line) (hk : k ≤ t.length) : ∀ (m j F : Nat), j + m = 4 → j ≤ lead 4 (t.drop k) →
    whLoop (evT S endT) (exSs S endB) (F + m + 1) [some (.pv (.str t)), some (.pv (.int (k : Int))), some (.pv (.int ((k + j : Nat) : Int)))] [] = some (.nx [some (.pv (.str t)), some (.pv (.int (k : Int))), some (.pv (.int ((k + lead 4 (t.drop k) : Nat) : Int)))] []) := by
  have hin : ∀ c, doCmp .in_ (.str [c]) (.str abc) = some (decide (c ∈ abc)) := fun _ => rfl
  have l0 := len_str hl
  obtain ⟨le4, les⟩ := lead_le 4 (t.drop k)
  have lens : (t.drop k).length = t.length - k := List.length_drop
  have stop : ∀ j, j ≤ lead 4 (t.drop k) → (4 ≤ j ∨ ∀ c r, t.drop (k + j) = c :: r → isL c = false) → evT S endT [some (.pv (.str t)), some (.pv (.int (k : Int))), some (.pv (.int ((k + j : Nat) : Int)))] [] = some (.ok false []) := by
    intro j hj h
    by_cases h1 : k + j < t.length
    · have h1' : ((k + j : Nat) : Int) < t.length := by omega
      rcases h with h | h
      · have h4 : ¬ ((k + j : Nat) : Int) < (k : Int) + 4 := by omega
        generalize ((k + j : Nat) : Int) = i at *
        simp [l0, h1', h4]
      · have hd := List.drop_eq_getElem_cons h1
        have hc := h _ _ hd
        have hix : doIdx (.str t) (.int ((k + j : Nat) : Int)) = some (.str [t[k + j]]) := by rw [idx_str hl h1, List.getElem?_eq_getElem h1]; rfl
        have hm : ¬ t[k + j] ∈ abc := fun hm => by
          rw [isL_abc.mpr hm] at hc
          cases hc
        generalize t[k + j] = c at *
        generalize ((k + j : Nat) : Int) = i at *
        by_cases h4 : i < (k : Int) + 4 <;> simp [l0, h1', h4, hix, hin, hm]
    · have h1' : ¬ ((k + j : Nat) : Int) < t.length := by omega
      generalize ((k + j : Nat) : Int) = i at *
      simp [l0, h1']
  intro m
  induction m with
  | zero =>
    intro j F h1 h3
    have e : lead 4 (t.drop k) = j := by omega
    rw [whLoop_false (stop j h3 (.inl (by omega))), e]
  | succ m ih =>
    intro j F h1 h3
    by_cases hj : j < lead 4 (t.drop k)
    · obtain ⟨c, r, hd, hc⟩ := lead_lt 4 _ j hj
      rw [List.drop_drop] at hd
      have h1l : k + j < t.length := by omega
      have hm : c ∈ abc := isL_abc.mp hc
      have hix : doIdx (.str t) (.int ((k + j : Nat) : Int)) = some (.str [c]) := by
        rw [idx_str hl h1l]
        have := List.getElem?_drop (xs := t) (i := k + j) (j := 0)
        rw [hd] at this
        simp at this
        rw [← this]; rfl
      have ad : ∀ i j : Int, doAug .add (.int i) (.int j) = some (.int (i + j)) := fun _ _ => rfl
      have i := ih (j + 1) F (by omega) hj
      have e2 : ((k + j : Nat) : Int) + 1 = ((k + (j + 1) : Nat) : Int) := by push_cast; omega
      have h1' : ((k + j : Nat) : Int) < t.length := by omega
      have h4 : ((k + j : Nat) : Int) < (k : Int) + 4 := by omega
      have g1 : evT S endT [some (.pv (.str t)), some (.pv (.int (k : Int))), some (.pv (.int ((k + j : Nat) : Int)))] [] = some (.ok true []) := by
        generalize ((k + j : Nat) : Int) = i at *
        simp [l0, h1', h4, hix, hin, hm]
      have g2 : exSs S endB [some (.pv (.str t)), some (.pv (.int (k : Int))), some (.pv (.int ((k + j : Nat) : Int)))] [] = some (.nx [some (.pv (.str t)), some (.pv (.int (k : Int))), some (.pv (.int ((k + (j + 1) : Nat) : Int)))] []) := by
        rw [← e2]
        generalize ((k + j : Nat) : Int) = i at *
        simp [ad]
      rw [show F + (m + 1) + 1 = (F + m + 1) + 1 by omega, whLoop_true g1 g2]
      exact i
    · have e : lead 4 (t.drop k) = j := by omega
      have sp := stop j h3 (.inr fun c r hd => by
        refine lead_at 4 (t.drop k) (by omega) c r ?_
        rw [e, List.drop_drop]; exact hd)
      rw [whLoop_false sp, e]
theorem end_at {n : Nat} {t : Sg} {k : Nat} (hl : t.length ≤ line) (hk : k ≤ t.length) (st : Store) : (Pr.sem (n + 1)).call 9 [.pv (.str t), .pv (.int (k : Int))] st = some (.ok (.pv (.int ((k + lead 4 (t.drop k) : Nat) : Int))) st) := by
  refine call2 (P := Pr) (st1 := []) rfl ?_
  rw [cal_eq Pr n 9 m9 _ _ rfl rfl]
  have lp := end_loop (Pr.sem n) hl hk 4 0 995 rfl (Nat.zero_le _)
  have wf : (Pr.sem n).wf = 1000 := rfl
  rw [show (995 + 4 + 1 : Nat) = 1000 from rfl, show k + 0 = k from rfl] at lp
  generalize ((k + lead 4 (t.drop k) : Nat) : Int) = i at lp ⊢
  simp only [endT, endB] at lp
  simp [m9, wf, lp]
def sBad : Sg := [98, 97, 100]
def lr (t : Sg) : Except Sg (Tm × Sg) → PV
  | .ok (tm, q) => .tup [tm.tree, .int ((t.length - q.length : Nat) : Int)]
  | .error q => .tup [.str [98, 97, 100], .int ((t.length - q.length : Nat) : Int)]
theorem eq_tree_str (a : Tm) (s : Sg) : doCmp .eq a.tree (.str s) = some false := by
  have e : eqP a.tree (.str s) = false := by cases a <;> rfl
  have e2 : Z.eqOk (.str s) = true := rfl
  simp only [doCmp, opEq, a.eqOk, e2, e, Z.dep, Nat.min_zero, Nat.zero_le, decide_true, Bool.and_self, if_true]
theorem slc_one {t q : Sg} (hl : t.length ≤ line) (hq : q <:+ t) : doSlc (.str t) (some ((t.length - q.length : Nat) : Int)) (some (((t.length - q.length : Nat) : Int) + 1)) = some (.str (q.take 1)) := by
  have h := cut_one t (t.length - q.length) (by omega)
  rw [drop_pos hq] at h
  simp only [doSlc, if_pos hl, h]
theorem pos_succ {t q : Sg} {c : Nat} (hq : q <:+ t) (h : q.take 1 = [c]) : ((t.length - q.length : Nat) : Int) + 1 = ((t.length - (q.drop 1).length : Nat) : Int) := by
  have := hq.length_le
  cases q with
  | nil => simp at h
  | cons d q =>
    simp only [List.length_cons, List.drop_succ_cons, List.drop_zero] at this ⊢
    omega
theorem cut_mid (t : Sg) (k e : Nat) (h : k + e ≤ t.length) : cut t (some (k : Int)) (some ((k + e : Nat) : Int)) = (t.drop k).take e := by
  unfold cut sIx
  have h0 : ¬ ((k : Int) < 0) := by omega
  have h1 : ¬ (((k + e : Nat) : Int) < 0) := by omega
  simp only [if_neg h0, if_neg h1, Int.toNat_natCast, Nat.min_eq_left h, Nat.min_eq_left (show k ≤ t.length by omega)]
  rw [show k + e - k = e by omega]
theorem bi0 : doBI .int [.bl false] = some (.int 0) := rfl
theorem bi1 : doBI .int [.bl true] = some (.int 1) := rfl
abbrev useL : List MS := [.iff (.cmp .eq (.var 3) (.lit (.str [98, 97, 100]))) [.ret (.tup [.lit (.str [98, 97, 100]), .var 4])] [], .iff (.cmp .ne (.slc (.var 0) true (.var 4) true (.bin .add (.var 4) (.lit (.int 1)))) (.lit (.str [32]))) [.ret (.tup [.lit (.str [98, 97, 100]), .var 4])] [], .asg (.tp [.nm 5, .nm 6]) (.call 10 [.var 0, .bin .add (.var 4) (.lit (.int 1))]), .iff (.cmp .eq (.var 5) (.lit (.str [98, 97, 100]))) [.ret (.tup [.lit (.str [98, 97, 100]), .var 6])] [], .ret (.idx (.lst false [.tup [.lit (.str [98, 97, 100]), .var 6], .tup [.tup [.lit (.str [117, 115, 101]), .var 3, .var 5], .bin .add (.var 6) (.lit (.int 1))]]) (.bi .int [.cmp .eq (.slc (.var 0) true (.var 6) true (.bin .add (.var 6) (.lit (.int 1)))) (.lit (.str [41]))]))]
theorem use_law {n : Nat} {S : Sem} {t : Sg} (hl : t.length ≤ line) (ih : ∀ (k : Nat) (r : Except Sg (Tm × Sg)), k ≤ t.length → rd n (t.drop k) = some r → S.call 10 [.pv (.str t), .pv (.int (k : Int))] [] = some (.ok (.pv (lr t r)) [])) (a : Tm) (q : Sg) (hq : q <:+ t) (r : Except Sg (Tm × Sg)) (h : rdU n a q = some r) (a1 a2 a5 a6 a7 : Option LV) :
    endR (exSs S useL [some (.pv (.str t)), a1, a2, some (.pv a.tree), some (.pv (.int ((t.length - q.length : Nat) : Int))), a5, a6, a7] []) = some (.ok (.pv (lr t r)) []) := by
  have ea := eq_tree_str a [98, 97, 100]
  have sl := slc_one hl hq
  unfold rdU at h
  split at h
  · rename_i h32
    have hq1 : q.drop 1 <:+ t := (List.drop_suffix 1 q).trans hq
    have hd := drop_pos hq1
    have ih1 := fun r1 (e : rd n (q.drop 1) = some r1) => ih (t.length - (q.drop 1).length) r1 (by omega) (by rw [hd]; exact e)
    have ps := pos_succ hq h32
    rw [ps] at sl
    rw [h32] at sl
    split at h
    · rename_i b q2 e
      have c1 := ih1 _ e
      have s2 : q2 <:+ t := (rd_suf e).trans hq1
      have sl2 := slc_one hl s2
      have eb := eq_tree_str b [98, 97, 100]
      simp only [lr] at c1
      split at h
      · rename_i h41
        cases h
        have ps2 := pos_succ s2 h41
        rw [ps2, h41] at sl2
        simp only [lr]
        generalize ((t.length - q.length : Nat) : Int) = j1 at *
        generalize ((t.length - (q.drop 1).length : Nat) : Int) = j2 at *
        generalize ((t.length - q2.length : Nat) : Int) = j3 at *
        generalize ((t.length - (q2.drop 1).length : Nat) : Int) = j4 at *
        simp [ea, sl, ps, c1, eb, sl2, ps2, optL, bi1, Tm.tree]
      · rename_i h41
        cases h
        simp only [lr]
        generalize ((t.length - q.length : Nat) : Int) = j1 at *
        generalize ((t.length - (q.drop 1).length : Nat) : Int) = j2 at *
        generalize ((t.length - q2.length : Nat) : Int) = j3 at *
        generalize q2.take 1 = z at *
        simp [ea, sl, ps, c1, eb, sl2, optL, bi0, h41]
    · rename_i o ho
      cases r with
      | ok v =>
        obtain ⟨b, q2⟩ := v
        exact absurd h (ho b q2)
      | error q2 =>
        have c1 := ih1 _ h
        simp only [lr] at c1 ⊢
        generalize ((t.length - q.length : Nat) : Int) = j1 at *
        generalize ((t.length - (q.drop 1).length : Nat) : Int) = j2 at *
        generalize ((t.length - q2.length : Nat) : Int) = j3 at *
        simp [ea, sl, ps, c1, optL]
  · rename_i h32
    cases h
    simp only [lr]
    generalize ((t.length - q.length : Nat) : Int) = j1 at *
    generalize q.take 1 = z at *
    simp [ea, sl, optL, h32]
end Z15
end

section
namespace Z15
open Z
abbrev funLaw : List MS := [.asg (.tp [.nm 7, .nm 4]) (.call 10 [.var 0, .bin .add (.var 2) (.lit (.int 1))]), .iff (.cmp .eq (.var 7) (.lit (.str [98, 97, 100]))) [.ret (.tup [.lit (.str [98, 97, 100]), .var 4])] [], .ret (.idx (.lst false [.tup [.lit (.str [98, 97, 100]), .var 4], .tup [.tup [.lit (.str [102, 117, 110]), .slc (.var 0) true (.bin .add (.var 1) (.lit (.int 1))) true (.var 2), .var 7], .bin .add (.var 4) (.lit (.int 1))]]) (.bi .int [.cmp .eq (.slc (.var 0) true (.var 4) true (.bin .add (.var 4) (.lit (.int 1)))) (.lit (.str [41]))]))]
theorem fun_law {n : Nat} {S : Sem} {t : Sg} (hl : t.length ≤ line) (ih : ∀ (k : Nat) (r : Except Sg (Tm × Sg)), k ≤ t.length → rd n (t.drop k) = some r → S.call 10 [.pv (.str t), .pv (.int (k : Int))] [] = some (.ok (.pv (lr t r)) [])) (k e : Nat) (x q : Sg) (hk : k + 1 + e + 1 ≤ t.length) (hx : (t.drop (k + 1)).take e = x) (hq : t.drop (k + 1 + e + 1) = q) (r : Except Sg (Tm × Sg)) (h : rdF n x q = some r) (a3 a4 a5 a6 a7 : Option LV) :
    Ends (exSs S funLaw [some (.pv (.str t)), some (.pv (.int (k : Int))), some (.pv (.int ((k + 1 + e : Nat) : Int))), a3, a4, a5, a6, a7] []) (.ok (.pv (lr t r)) []) := by
  unfold rdF at h
  have ih1 := fun r1 (e1 : rd n q = some r1) => ih (k + 1 + e + 1) r1 hk (by rw [hq]; exact e1)
  have e1 : ((k + 1 + e : Nat) : Int) + 1 = ((k + 1 + e + 1 : Nat) : Int) := by push_cast; rfl
  have cm := cut_mid t (k + 1) e (by omega)
  rw [hx] at cm
  have dm : doSlc (.str t) (some ((k : Int) + 1)) (some ((k + 1 + e : Nat) : Int)) = some (.str x) := by
    rw [show (k : Int) + 1 = ((k + 1 : Nat) : Int) by push_cast; rfl]
    simp only [doSlc, if_pos hl, cm]
  have hqs : q <:+ t := hq ▸ List.drop_suffix _ _
  split at h
  · rename_i b q2 e2
    have c1 := ih1 _ e2
    have s2 : q2 <:+ t := (rd_suf e2).trans hqs
    have sl2 := slc_one hl s2
    have eb := eq_tree_str b [98, 97, 100]
    simp only [lr] at c1
    split at h
    · rename_i h41
      cases h
      have ps2 := pos_succ s2 h41
      rw [ps2, h41] at sl2
      refine .inl ⟨.pv (lr t (.ok (.fn x b, q2.drop 1))), [], ?_, rfl⟩
      simp only [lr]
      generalize ((k + 1 + e : Nat) : Int) = j1 at *
      generalize ((k + 1 + e + 1 : Nat) : Int) = j2 at *
      generalize ((t.length - q2.length : Nat) : Int) = j3 at *
      generalize ((t.length - (q2.drop 1).length : Nat) : Int) = j4 at *
      simp [e1, c1, eb, sl2, ps2, dm, optL, bi1, Tm.tree]
    · rename_i h41
      cases h
      refine .inl ⟨.pv (lr t (.error q2)), [], ?_, rfl⟩
      simp only [lr]
      generalize ((k + 1 + e : Nat) : Int) = j1 at *
      generalize ((k + 1 + e + 1 : Nat) : Int) = j2 at *
      generalize ((t.length - q2.length : Nat) : Int) = j3 at *
      generalize q2.take 1 = z at *
      simp [e1, c1, eb, sl2, dm, optL, bi0, h41]
  · rename_i o ho
    cases r with
    | ok v =>
      obtain ⟨b, q2⟩ := v
      exact absurd h (ho b q2)
    | error q2 =>
      have c1 := ih1 _ h
      refine .inl ⟨.pv (lr t (.error q2)), [], ?_, rfl⟩
      simp only [lr] at c1 ⊢
      generalize ((k + 1 + e : Nat) : Int) = j1 at *
      generalize ((k + 1 + e + 1 : Nat) : Int) = j2 at *
      generalize ((t.length - q2.length : Nat) : Int) = j3 at *
      simp [e1, c1]
theorem read_any : ∀ (n : Nat) (t : Sg) (k : Nat) (r : Except Sg (Tm × Sg)), t.length ≤ line → k ≤ t.length → rd n (t.drop k) = some r → Pr.cal (n + 1) 10 [.pv (.str t), .pv (.int (k : Int))] [] = some (.ok (.pv (lr t r)) [])
  | 0, _, _, _, _, _, h => by simp [rd] at h
  | n + 1, t, k, r, hl, hk, h => by
    rw [cal_eq Pr (n + 1) 10 m10 _ _ rfl rfl, show m10.nn - m10.ar = 6 from rfl]
    have ih := fun (k : Nat) (r : Except Sg (Tm × Sg)) (hk : k ≤ t.length) (e : rd n (t.drop k) = some r) => call2 (P := Pr) (f := 10) (st := []) rfl (read_any n t k r hl hk e)
    have eb : m10.body = .asg (.nm 2) (.call 9 [.var 0, .var 1]) :: .iff (.cmp .gt (.var 2) (.var 1)) [.ret (.tup [.tup [.lit (.str [118, 97, 114]), .slc (.var 0) true (.var 1) true (.var 2)], .var 2])] [] :: .iff (.boolop false [.cmp .ge (.var 1) (.bi .len [.var 0]), .cmp .ne (.idx (.var 0) (.var 1)) (.lit (.str [40]))]) [.ret (.tup [.lit (.str [98, 97, 100]), .var 1])] [] :: .asg (.nm 2) (.call 9 [.var 0, .bin .add (.var 1) (.lit (.int 1))]) :: .iff (.boolop true [.cmp .gt (.var 2) (.bin .add (.var 1) (.lit (.int 1))), .cmp .eq (.slc (.var 0) true (.var 2) true (.bin .add (.var 2) (.lit (.int 1)))) (.lit (.str [46]))]) funLaw [] :: .asg (.tp [.nm 3, .nm 4]) (.call 10 [.var 0, .bin .add (.var 1) (.lit (.int 1))]) :: useL := rfl
    rw [eb]
    have ut := fun (a : Tm) (q : Sg) (hq : q <:+ t) (r : Except Sg (Tm × Sg)) (h : rdU n a q = some r) (a1 a2 a5 a6 a7 : Option LV) => use_law (n := n) (S := Pr.sem (n + 1)) hl ih a q hq r h a1 a2 a5 a6 a7
    have ux := fun (φ : Slots) => show exSs (Pr.sem (n + 1)) useL φ [] = seqS (exSs (Pr.sem (n + 1)) (useL.drop 1)) (exS (Pr.sem (n + 1)) (.iff (.cmp .eq (.var 3) (.lit (.str [98, 97, 100]))) [.ret (.tup [.lit (.str [98, 97, 100]), .var 4])] []) φ []) from exSs_cons _ _ _ _ _
    have ft := fun (k e : Nat) (x q : Sg) (hk : k + 1 + e + 1 ≤ t.length) (hx : (t.drop (k + 1)).take e = x) (hq : t.drop (k + 1 + e + 1) = q) (r : Except Sg (Tm × Sg)) (h : rdF n x q = some r) (a3 a4 a5 a6 a7 : Option LV) => fun_law (n := n) (S := Pr.sem (n + 1)) hl ih k e x q hk hx hq r h a3 a4 a5 a6 a7
    generalize (useL.drop 1 : List MS) = useR at ux
    generalize (useL : List MS) = useS at ut ux ⊢
    generalize (funLaw : List MS) = funS' at ft ⊢
    have hkl : (t.drop k).length = t.length - k := List.length_drop
    have en := fun (k : Nat) (hk : k ≤ t.length) (st : Store) => end_at (n := n) (t := t) (k := k) hl hk st
    have l0 := len_str hl
    generalize Pr.sem (n + 1) = S at ih ut ux ft en ⊢
    have en0 := en k hk []
    have le := lead_le 4 (t.drop k)
    rw [rd_eq] at h
    by_cases h0 : 0 < lead 4 (t.drop k)
    · rw [if_pos h0] at h
      cases h
      have ep : t.length - ((t.drop k).drop (lead 4 (t.drop k))).length = k + lead 4 (t.drop k) := by
        rw [List.length_drop, hkl]
        omega
      have cm := cut_mid t k (lead 4 (t.drop k)) (by omega)
      have dm : doSlc (.str t) (some (k : Int)) (some ((k + lead 4 (t.drop k) : Nat) : Int)) = some (.str ((t.drop k).take (lead 4 (t.drop k)))) := by
        simp only [doSlc, if_pos hl, cm]
      have gt : (k : Int) < ((k + lead 4 (t.drop k) : Nat) : Int) := by omega
      simp only [lr]
      rw [ep]
      generalize ((k + lead 4 (t.drop k) : Nat) : Int) = j at *
      generalize (t.drop k).take (lead 4 (t.drop k)) = y at *
      simp [en0, gt, dm, optL, Tm.tree]
    · rw [if_neg h0] at h
      have h00 : lead 4 (t.drop k) = 0 := by omega
      rw [h00, Nat.add_zero] at en0
      cases hs : t.drop k with
      | nil =>
        rw [hs] at h
        cases h
        have hkk : t.length = k := by
          rw [hs] at hkl
          simp at hkl
          omega
        have hkk' : (k : Int) = t.length := by omega
        simp only [lr, List.length_nil, Nat.sub_zero]
        rw [hkk'] at en0 ⊢
        simp [en0, l0]
      | cons c q =>
        have hpk : t.length - (c :: q).length = k := by
          rw [hs] at hkl
          omega
        have hk1 := drop_le hs
        have hlt : ¬ (t.length : Int) ≤ (k : Int) := by omega
        have hix : doIdx (.str t) (.int (k : Int)) = some (.str [c]) := by
          rw [idx_str hl (by omega)]
          have := List.getElem?_drop (xs := t) (i := k) (j := 0)
          rw [hs] at this
          simp at this
          rw [← this]; rfl
        rw [hs] at h
        simp only at h
        by_cases hc : c = 40
        · rw [if_pos hc] at h
          subst hc
          have hq : t.drop (k + 1) = q := drop_more (x := [40]) hs
          have hqs : q <:+ t := hq ▸ List.drop_suffix _ _
          have e1 : (k : Int) + 1 = ((k + 1 : Nat) : Int) := by push_cast; rfl
          have hql : q.length = t.length - (k + 1) := by rw [← hq, List.length_drop]
          have en1 := en (k + 1) hk1 []
          rw [hq, ← e1] at en1
          have le := lead_le 4 q
          have hp : t.length - (q.drop (lead 4 q)).length = k + 1 + lead 4 q := by
            rw [List.length_drop]
            omega
          have hds : q.drop (lead 4 q) <:+ t := (List.drop_suffix _ _).trans hqs
          have sl := slc_one hl hds
          rw [hp] at sl
          by_cases hpt : 0 < lead 4 q ∧ (q.drop (lead 4 q)).take 1 = [46]
          · rw [if_pos hpt] at h
            have ql : 1 ≤ (q.drop (lead 4 q)).length := by
              cases hz : q.drop (lead 4 q) with
              | nil => rw [hz] at hpt; simp at hpt
              | cons _ _ => simp
            rw [List.length_drop] at ql
            have hqd : t.drop (k + 1 + lead 4 q + 1) = q.drop (lead 4 q + 1) := by
              rw [← hq, List.drop_drop]; congr 1
            have f := ft k (lead 4 q) (q.take (lead 4 q)) (q.drop (lead 4 q + 1)) (by omega) (by rw [hq]) hqd r h none none none none none
            have gt : (k : Int) + 1 < ((k + 1 + lead 4 q : Nat) : Int) := by omega
            rw [hpt.2] at sl
            generalize ((k + 1 + lead 4 q : Nat) : Int) = j2 at *
            have out := fun k' => f.out k'
            simp [en0, l0, hlt, hix, en1, gt, sl, optL, out]
          · rw [if_neg hpt] at h
            have tst : evT S (.boolop true [.cmp .gt (.var 2) (.bin .add (.var 1) (.lit (.int 1))), .cmp .eq (.slc (.var 0) true (.var 2) true (.bin .add (.var 2) (.lit (.int 1)))) (.lit (.str [46]))]) [some (.pv (.str t)), some (.pv (.int (k : Int))), some (.pv (.int ((k + 1 + lead 4 q : Nat) : Int))), none, none, none, none, none] [] = some (.ok false []) := by
              by_cases he : 0 < lead 4 q
              · have hz : ¬ (q.drop (lead 4 q)).take 1 = [46] := fun hh => hpt ⟨he, hh⟩
                have gt : (k : Int) + 1 < ((k + 1 + lead 4 q : Nat) : Int) := by omega
                generalize (q.drop (lead 4 q)).take 1 = z at *
                generalize ((k + 1 + lead 4 q : Nat) : Int) = j2 at *
                simp [gt, sl, optL, hz]
              · have gt : ¬ (k : Int) + 1 < ((k + 1 + lead 4 q : Nat) : Int) := by omega
                generalize ((k + 1 + lead 4 q : Nat) : Int) = j2 at *
                simp [gt]
            generalize hT : MT.boolop true [.cmp .gt (.var 2) (.bin .add (.var 1) (.lit (.int 1))), .cmp .eq (.slc (.var 0) true (.var 2) true (.bin .add (.var 2) (.lit (.int 1)))) (.lit (.str [46]))] = T at tst ⊢
            cases hr : rd n q with
            | none => rw [hr] at h; cases h
            | some r1 =>
              have c1 := ih (k + 1) r1 hk1 (by rw [hq]; exact hr)
              rw [← e1] at c1
              rw [hr] at h
              generalize ((k + 1 + lead 4 q : Nat) : Int) = j2 at *
              cases r1 with
              | ok v =>
                obtain ⟨a, q1⟩ := v
                have u := ut a q1 ((rd_suf hr).trans hqs) r h (some (.pv (.int (k : Int)))) (some (.pv (.int j2))) none none none
                simp only [lr] at c1
                generalize ((t.length - q1.length : Nat) : Int) = j3 at *
                simp [en0, l0, hlt, hix, en1, tst, c1, u]
              | error q1 =>
                simp only at h
                cases h
                simp only [lr] at c1 ⊢
                generalize ((t.length - q1.length : Nat) : Int) = j3 at *
                simp [en0, l0, hlt, hix, en1, tst, c1, ux]
        · rw [if_neg hc] at h
          cases h
          simp only [lr]
          rw [hpk]
          simp [en0, l0, hlt, hix, hc]
end Z15
end

section
namespace Z15
open Z
/-! ### what is told of a text -/
def R (t : Sg) : Except Sg (Tm × Sg) → PV
  | .ok (tm, []) => if 120 < t.length then .tup [.str [98, 97, 100], .int t.length] else .tup [.str [116, 101, 114, 109], tm.tree]
  | .ok (_, c :: q) => .tup [.str [98, 97, 100], .int ((t.length - (c :: q).length : Nat) : Int)]
  | .error q => .tup [.str [98, 97, 100], .int ((t.length - q.length : Nat) : Int)]
theorem law_told {n : Nat} {t : Sg} {r : Except Sg (Tm × Sg)} (hl : t.length ≤ line) (h : rd n t = some r) (st : Store) : (Pr.sem (n + 2)).call 11 [.pv (.str t)] st = some (.ok (.pv (R t r)) st) := by
  refine call1 (P := Pr) (st1 := []) rfl ?_
  rw [cal_eq Pr (n + 1) 11 m11 _ _ rfl rfl]
  have c := call2 (P := Pr) (f := 10) (st := []) rfl (read_any n t 0 r hl (Nat.zero_le _) (by simpa using h))
  have l0 := len_str hl
  have z : ((0 : Nat) : Int) = 0 := rfl
  rw [z] at c
  cases r with
  | error q =>
    simp only [lr] at c
    simp only [R]
    generalize ((t.length - q.length : Nat) : Int) = j at *
    simp [m11, c]
  | ok v =>
    obtain ⟨tm, q⟩ := v
    have ea := eq_tree_str tm [98, 97, 100]
    simp only [lr] at c
    cases q with
    | cons d q =>
      have hq := (rd_suf h).length_le
      simp only [R]
      have lt : ((t.length - (d :: q).length : Nat) : Int) < t.length := by simp at hq ⊢; omega
      generalize ((t.length - (d :: q).length : Nat) : Int) = j at *
      simp [m11, c, ea, l0, lt]
    | nil =>
      simp only [List.length_nil, Nat.sub_zero] at c
      by_cases h120 : 120 < t.length
      · have h' : (120 : Int) < t.length := by omega
        simp [m11, c, ea, l0, R, h120, h', bi1]
      · have h' : ¬ (120 : Int) < t.length := by omega
        simp [m11, c, ea, l0, R, h120, h', bi0]
def badI (i : Int) : Ex := ⟨1, [(0, .int i)]⟩
def okR (t : Sg) : Except Sg (Tm × Sg) → Store → ER
  | .ok (tm, []), st => if 120 < t.length then .ex (badI t.length) st else .ok (.pv tm.tree) st
  | .ok (_, c :: q), st => .ex (badI ((t.length - (c :: q).length : Nat) : Int)) st
  | .error q, st => .ex (badI ((t.length - q.length : Nat) : Int)) st
theorem read_text {n : Nat} {t : Sg} {r : Except Sg (Tm × Sg)} (hl : t.length ≤ line) (h : rd n t = some r) : ∃ st', Pr.cal (n + 4) 1 [.pv (.str t)] [] = some (okR t r st') := by
  rw [cal_eq Pr (n + 3) 1 m1 _ _ rfl rfl]
  have mk := madeR (n + 1) t
  have c := call_rs (term_any n t 0 r hl (Nat.zero_le _) (by simpa using h))
  have z : ((0 : Nat) : Int) = 0 := rfl
  rw [z] at c
  have l0 := len_str hl
  have x1 : (Pr.sem (n + 3)).xin 1 = some (1, [(0, 0)]) := rfl
  have iR := isR (n + 3) t
  cases r with
  | error q =>
    simp only [rs, bad] at c
    refine ⟨stR t ((t.length - q.length : Nat) : Int), ?_⟩
    simp only [okR, badI]
    generalize ((t.length - q.length : Nat) : Int) = j at *
    simp [m1, mk, iR, c]
  | ok v =>
    obtain ⟨tm, q⟩ := v
    simp only [rs] at c
    cases q with
    | cons d q =>
      have hs := rd_suf h
      have e := end_no (n := n + 1) (t := t) (k := t.length - (d :: q).length) hl (by omega) (drop_pos hs)
      refine ⟨stR t ((t.length - (d :: q).length : Nat) : Int), ?_⟩
      simp only [okR, badI]
      simp only [bad] at e
      generalize ((t.length - (d :: q).length : Nat) : Int) = j at *
      simp [m1, mk, iR, c, e]
    | nil =>
      have e := end_of (n := n + 1) (t := t) (k := t.length) hl rfl
      simp only [List.length_nil, Nat.sub_zero] at c
      refine ⟨stR t ((t.length : Nat) : Int), ?_⟩
      by_cases h120 : 120 < t.length
      · have h' : (120 : Int) < t.length := by omega
        simp only [okR, if_pos h120, badI]
        generalize ((t.length : Nat) : Int) = j at *
        simp [m1, mk, iR, c, e, l0, h', x1, extP]
      · have h' : ¬ (120 : Int) < t.length := by omega
        simp only [okR, if_neg h120]
        generalize ((t.length : Nat) : Int) = j at *
        simp [m1, mk, iR, c, e, l0, h']
theorem sub10 (n : Nat) : (Pr.sem n).sub 1 0 = true := rfl
theorem sub11 (n : Nat) : (Pr.sem n).sub 1 1 = true := rfl
theorem sub12 (n : Nat) : (Pr.sem n).sub 1 2 = false := rfl
theorem sub13 (n : Nat) : (Pr.sem n).sub 1 3 = false := rfl
theorem prog_told {n : Nat} {t : Sg} {r : Except Sg (Tm × Sg)} (hl : t.length ≤ line) (h : rd n t = some r) (st : Store) : (Pr.sem (n + 5)).call 12 [.pv (.str t)] st = some (.ok (.pv (R t r)) st) := by
  refine call1 (P := Pr) (st1 := []) rfl ?_
  rw [cal_eq Pr (n + 4) 12 m12 _ _ rfl rfl]
  obtain ⟨st', c⟩ := read_text hl h
  have x1 : (Pr.sem (n + 4)).xin 1 = some (1, [(0, 0)]) := rfl
  have bads : ∀ i : Int, Pr.cal (n + 4) 1 [.pv (.str t)] [] = some (.ex (badI i) st') → endR (exSs (Pr.sem (n + 4)) m12.body ([.pv (.str t)].map some ++ List.replicate (m12.nn - m12.ar) none) []) = some (.ok (.pv (.tup [.str [98, 97, 100], .int i])) []) := by
    intro i e
    have c1 := callx1 (P := Pr) (f := 1) (st := []) rfl e
    simp only [badI] at c1
    simp [m12, c1, x1, sub10, sub11, sub12, sub13, look, unslot]
  cases r with
  | error q => exact bads _ c
  | ok v =>
    obtain ⟨tm, q⟩ := v
    cases q with
    | cons d q => exact bads _ c
    | nil =>
      simp only [okR] at c
      simp only [R]
      by_cases h120 : 120 < t.length
      · rw [if_pos h120] at c ⊢
        exact bads _ c
      · rw [if_neg h120] at c ⊢
        have c1 := call1 (P := Pr) (f := 1) (st := []) rfl c
        simp [m12, c1]
/-! ### alike -/
theorem same_str (n : Nat) (x : Sg) (st : Store) : (Pr.sem (n + 1)).call 4 [.pv (.str x), .pv (.str x)] st = some (.ok (.pv (.bl true)) st) := by
  refine call2 (P := Pr) (st1 := []) rfl ?_
  rw [cal_eq Pr n 4 m4 _ _ rfl rfl]
  have i1 : isTy .list (.str x) = some false := rfl
  have i2 : isTy .tuple (.str x) = some false := rfl
  have i3 : isTy .bool (.str x) = some false := rfl
  have i4 : isTy .str (.str x) = some true := rfl
  simp [m4, i1, i2, i3, i4]
theorem same_int (n : Nat) (x : Int) (st : Store) : (Pr.sem (n + 1)).call 4 [.pv (.int x), .pv (.int x)] st = some (.ok (.pv (.bl true)) st) := by
  refine call2 (P := Pr) (st1 := []) rfl ?_
  rw [cal_eq Pr n 4 m4 _ _ rfl rfl]
  have i1 : isTy .list (.int x) = some false := rfl
  have i2 : isTy .tuple (.int x) = some false := rfl
  have i3 : isTy .bool (.int x) = some false := rfl
  have i4 : isTy .str (.int x) = some false := rfl
  have i5 : isTy .int (.int x) = some true := rfl
  simp [m4, i1, i2, i3, i4, i5]
theorem same_two (n : Nat) (p q : PV) (h1 : ∀ st, (Pr.sem n).call 4 [.pv p, .pv p] st = some (.ok (.pv (.bl true)) st)) (h2 : ∀ st, (Pr.sem n).call 4 [.pv q, .pv q] st = some (.ok (.pv (.bl true)) st)) (st : Store) : (Pr.sem (n + 1)).call 4 [.pv (.tup [p, q]), .pv (.tup [p, q])] st = some (.ok (.pv (.bl true)) st) := by
  refine call2 (P := Pr) (st1 := []) rfl ?_
  rw [cal_eq Pr n 4 m4 _ _ rfl rfl]
  have i1 : isTy .list (.tup [p, q]) = some false := rfl
  have i2 : isTy .tuple (.tup [p, q]) = some true := rfl
  generalize Pr.sem n = S at h1 h2 ⊢
  have l : lcLoop (lcStep S (.call 4 [.idx (.var 0) (.var 2), .idx (.var 1) (.var 2)]) (.nm 2) [] [2] [some (.pv (.tup [p, q])), some (.pv (.tup [p, q])), none]) ((upto 0 2).map .int) [] = some ([.pv (.bl true), .pv (.bl true)], []) := by
    simp [upto, lcLoop, noX, lcStep, wipeL, h1, h2]
  have l' := lcV_upto (live := false) (n := 2) (by decide) l
  have a2 : doBI .all [.lst [.bl true, .bl true]] = some (.bl true) := rfl
  simp at l'
  simp [m4, i1, i2, l', a2]
theorem same_three (n : Nat) (p q r : PV) (h1 : ∀ st, (Pr.sem n).call 4 [.pv p, .pv p] st = some (.ok (.pv (.bl true)) st)) (h2 : ∀ st, (Pr.sem n).call 4 [.pv q, .pv q] st = some (.ok (.pv (.bl true)) st)) (h3 : ∀ st, (Pr.sem n).call 4 [.pv r, .pv r] st = some (.ok (.pv (.bl true)) st)) (st : Store) : (Pr.sem (n + 1)).call 4 [.pv (.tup [p, q, r]), .pv (.tup [p, q, r])] st = some (.ok (.pv (.bl true)) st) := by
  refine call2 (P := Pr) (st1 := []) rfl ?_
  rw [cal_eq Pr n 4 m4 _ _ rfl rfl]
  have i1 : isTy .list (.tup [p, q, r]) = some false := rfl
  have i2 : isTy .tuple (.tup [p, q, r]) = some true := rfl
  generalize Pr.sem n = S at h1 h2 h3 ⊢
  have l : lcLoop (lcStep S (.call 4 [.idx (.var 0) (.var 2), .idx (.var 1) (.var 2)]) (.nm 2) [] [2] [some (.pv (.tup [p, q, r])), some (.pv (.tup [p, q, r])), none]) ((upto 0 3).map .int) [] = some ([.pv (.bl true), .pv (.bl true), .pv (.bl true)], []) := by
    simp [upto, lcLoop, noX, lcStep, wipeL, h1, h2, h3]
  have l' := lcV_upto (live := false) (n := 3) (by decide) l
  have a2 : doBI .all [.lst [.bl true, .bl true, .bl true]] = some (.bl true) := rfl
  simp at l'
  simp [m4, i1, i2, l', a2]
theorem same_tree : ∀ (t : Tm) (n : Nat), t.dep + 1 ≤ n → ∀ st, (Pr.sem n).call 4 [.pv t.tree, .pv t.tree] st = some (.ok (.pv (.bl true)) st)
  | .var x, n, h, st => by
    obtain ⟨n, rfl⟩ : ∃ m, n = m + 2 := ⟨n - 2, by simp only [Tm.dep] at h; omega⟩
    exact same_two (n + 1) _ _ (same_str n _) (same_str n _) st
  | .fn x b, n, h, st => by
    obtain ⟨n, rfl⟩ : ∃ m, n = m + 2 := ⟨n - 2, by simp only [Tm.dep] at h; omega⟩
    simp only [Tm.dep] at h
    exact same_three (n + 1) _ _ _ (same_str n _) (same_str n _) (same_tree b (n + 1) (by omega)) st
  | .use a b, n, h, st => by
    obtain ⟨n, rfl⟩ : ∃ m, n = m + 2 := ⟨n - 2, by simp only [Tm.dep] at h; omega⟩
    simp only [Tm.dep] at h
    exact same_three (n + 1) _ _ _ (same_str n _) (same_tree a (n + 1) (by omega)) (same_tree b (n + 1) (by omega)) st
theorem rd_dep : ∀ {n : Nat} {s : Sg} {tm : Tm} {q : Sg}, rd n s = some (.ok (tm, q)) → tm.dep ≤ n
  | 0, _, _, _, h => by simp [rd] at h
  | n + 1, s, tm, q, h => by
    rw [rd_eq] at h
    split at h
    · cases h
      simp [Tm.dep]
    · split at h
      · cases h
      · split at h
        · split at h
          · unfold rdF at h
            split at h
            · rename_i e
              have := rd_dep e
              split at h
              · cases h
                simp only [Tm.dep]; omega
              · cases h
            · rename_i o ho
              exact absurd h (ho _ _)
          · split at h
            · rename_i e1
              have := rd_dep e1
              unfold rdU at h
              split at h
              · split at h
                · rename_i e
                  have := rd_dep e
                  split at h
                  · cases h
                    simp only [Tm.dep]; omega
                  · cases h
                · rename_i o ho
                  exact absurd h (ho _ _)
              · cases h
            · rename_i o ho
              exact absurd h (ho _ _)
        · cases h
theorem same_R {n : Nat} {t s : Sg} {r : Except Sg (Tm × Sg)} (h : rd n s = some r) (m : Nat) (hm : n + 3 ≤ m) (st : Store) : (Pr.sem m).call 4 [.pv (R t r), .pv (R t r)] st = some (.ok (.pv (.bl true)) st) := by
  obtain ⟨m, rfl⟩ : ∃ k, m = k + 2 := ⟨m - 2, by omega⟩
  cases r with
  | error q => exact same_two (m + 1) _ _ (same_str m _) (same_int m _) st
  | ok v =>
    obtain ⟨tm, q⟩ := v
    have := rd_dep h
    cases q with
    | cons d q => exact same_two (m + 1) _ _ (same_str m _) (same_int m _) st
    | nil =>
      simp only [R]
      split
      · exact same_two (m + 1) _ _ (same_str m _) (same_int m _) st
      · exact same_two (m + 1) _ _ (same_str m _) (same_tree tm (m + 1) (by omega)) st
theorem rd_mono1 : ∀ (n : Nat) (s : Sg) (r : Except Sg (Tm × Sg)), rd n s = some r → rd (n + 1) s = some r
  | 0, _, _, h => by simp [rd] at h
  | n + 1, s, r, h => by
    rw [rd_eq] at h ⊢
    split at h
    · rename_i h0
      rw [if_pos h0]; exact h
    · rename_i h0
      rw [if_neg h0]
      split at h
      · exact h
      · rename_i c q
        split at h
        · rename_i hc
          rw [if_pos hc]
          split at h
          · rename_i hp
            rw [if_pos hp]
            unfold rdF at h ⊢
            cases e : rd n (q.drop (lead 4 q + 1)) with
            | none => rw [e] at h; cases h
            | some r1 =>
              rw [rd_mono1 n _ _ e]
              rw [e] at h
              exact h
          · rename_i hp
            rw [if_neg hp]
            cases e : rd n q with
            | none => rw [e] at h; cases h
            | some r1 =>
              rw [rd_mono1 n _ _ e]
              rw [e] at h
              cases r1 with
              | error q1 => exact h
              | ok v =>
                obtain ⟨a, q1⟩ := v
                simp only at h ⊢
                unfold rdU at h ⊢
                split at h
                · rename_i h32
                  rw [if_pos h32]
                  cases e2 : rd n (q1.drop 1) with
                  | none => rw [e2] at h; cases h
                  | some r2 =>
                    rw [rd_mono1 n _ _ e2]
                    rw [e2] at h
                    exact h
                · rename_i h32
                  rw [if_neg h32]; exact h
        · rename_i hc
          rw [if_neg hc]; exact h
theorem rd_mono {n m : Nat} {s : Sg} {r : Except Sg (Tm × Sg)} (h : rd n s = some r) (hm : n ≤ m) : rd m s = some r := by
  induction hm with
  | refl => exact h
  | step _ ih => exact rd_mono1 _ _ _ ih
/-- both say the same of any text -/
theorem both_same {m : Nat} (t : Sg) (hm : 110 ≤ m) (hc : t.count 40 < 100) (hl : t.length ≤ line) : ∃ r, rd 100 t = some r ∧ (∀ st, (Pr.sem m).call 12 [.pv (.str t)] st = some (.ok (.pv (R t r)) st)) ∧ (∀ st, (Pr.sem m).call 11 [.pv (.str t)] st = some (.ok (.pv (R t r)) st)) ∧ ∀ st, (Pr.sem m).call 4 [.pv (R t r), .pv (R t r)] st = some (.ok (.pv (.bl true)) st) := by
  obtain ⟨r, h⟩ := rd_some 100 t hc
  obtain ⟨m, rfl⟩ : ∃ k, m = k + 5 := ⟨m - 5, by omega⟩
  exact ⟨r, h, fun st => prog_told hl (rd_mono h (show 100 ≤ m by omega)) st, fun st => law_told (n := m + 3) hl (rd_mono h (by omega)) st, fun st => same_R h _ (by omega) st⟩
/-- a written term is read back -/
theorem lead_name : ∀ (n : Nat) (x q : Sg), x.length ≤ n → (∀ c ∈ x, isL c = true) → (∀ c r, q = c :: r → isL c = false) → lead n (x ++ q) = x.length
  | 0, [], q, _, _, _ => rfl
  | 0, c :: x, q, h, _, _ => by simp at h
  | n + 1, [], q, _, _, h => by
    cases q with
    | nil => rfl
    | cons c r => simp [lead, h c r rfl]
  | n + 1, c :: x, q, hl, hx, hq => by
    have := lead_name n x q (by simpa using hl) (fun d hd => hx d (by simp [hd])) hq
    simp only [List.cons_append, lead, hx c (by simp), if_true, this, List.length_cons]
    omega
theorem okN_letters {x : Sg} (h : okN x) : ∀ c ∈ x, isL c = true := fun c hc => by
  have := h.2 c hc
  simp [isL, this]
theorem rd_text : ∀ (t : Tm) (n : Nat) (q : Sg), t.good → t.dep ≤ n → (∀ c r, q = c :: r → isL c = false) → rd n (t.text ++ q) = some (.ok (t, q))
  | .var x, n, q, g, h, hq => by
    obtain ⟨n, rfl⟩ : ∃ m, n = m + 1 := ⟨n - 1, by simp only [Tm.dep] at h; omega⟩
    have g' : okN x := g
    have l := lead_name 4 x q g'.1.2 (okN_letters g') hq
    have : 0 < x.length := g'.1.1
    simp only [Tm.text]
    rw [rd_eq, l, if_pos this]
    simp
  | .fn x b, n, q, g, h, hq => by
    obtain ⟨n, rfl⟩ : ∃ m, n = m + 1 := ⟨n - 1, by simp only [Tm.dep] at h; omega⟩
    simp only [Tm.dep] at h
    have e : (Tm.fn x b).text ++ q = 40 :: (x ++ (46 :: (b.text ++ (41 :: q)))) := by simp [Tm.text]
    have l := lead_name 4 x (46 :: (b.text ++ (41 :: q))) g.1.1.2 (okN_letters g.1) (fun c r e => by cases e; rfl)
    have l0 : lead 4 (40 :: (x ++ (46 :: (b.text ++ (41 :: q))))) = 0 := rfl
    have hx : 0 < x.length := g.1.1.1
    have ih := rd_text b n (41 :: q) g.2 (by omega) (fun c r e => by cases e; rfl)
    rw [e, rd_eq, l0, if_neg (by decide)]
    simp only [if_true, l]
    rw [if_pos ⟨hx, by simp⟩]
    unfold rdF
    have e2 : (x ++ (46 :: (b.text ++ (41 :: q)))).drop (x.length + 1) = b.text ++ (41 :: q) := by
      rw [← List.drop_drop, List.drop_left]; rfl
    rw [e2, ih]
    simp
  | .use a b, n, q, g, h, hq => by
    obtain ⟨n, rfl⟩ : ∃ m, n = m + 1 := ⟨n - 1, by simp only [Tm.dep] at h; omega⟩
    simp only [Tm.dep] at h
    have e : (Tm.use a b).text ++ q = 40 :: (a.text ++ (32 :: (b.text ++ (41 :: q)))) := by simp [Tm.text]
    have l0 : lead 4 (40 :: (a.text ++ (32 :: (b.text ++ (41 :: q))))) = 0 := rfl
    have ih1 := rd_text a n (32 :: (b.text ++ (41 :: q))) g.1 (by omega) (fun c r e => by cases e; rfl)
    have ih2 := rd_text b n (41 :: q) g.2 (by omega) (fun c r e => by cases e; rfl)
    rw [e, rd_eq, l0, if_neg (by decide)]
    simp only [if_true]
    have np : ¬ (0 < lead 4 (a.text ++ (32 :: (b.text ++ (41 :: q)))) ∧ ((a.text ++ (32 :: (b.text ++ (41 :: q)))).drop (lead 4 (a.text ++ (32 :: (b.text ++ (41 :: q)))))).take 1 = [46]) := by
      cases a with
      | var x =>
        have g1 : okN x := g.1
        have l := lead_name 4 x (32 :: (b.text ++ (41 :: q))) g1.1.2 (okN_letters g1) (fun c r e => by cases e; rfl)
        simp only [Tm.text]
        rw [l]
        simp
      | fn x c => simp [Tm.text, lead, isL]
      | use c d => simp [Tm.text, lead, isL]
    rw [if_neg np, ih1]
    simp only
    unfold rdU
    simp [ih2]
theorem read_back {t : Tm} {r : Except Sg (Tm × Sg)} (g : t.good) (h : t.dep ≤ 100) (e : rd 100 t.text = some r) : R t.text r = if 120 < t.text.length then .tup [.str [98, 97, 100], .int t.text.length] else .tup [.str [116, 101, 114, 109], t.tree] := by
  have := rd_text t 100 [] g h (fun c r e => by cases e)
  rw [List.append_nil, e] at this
  cases this
  rfl
end Z15
end

section
namespace Z15
open Z
theorem hdraw : Pr.defs[3]? = some drawMD := rfl
abbrev Dr (S : Sem) : Prop := ∀ {st : Store}, Fed st → ∀ {m : Int}, 0 < m → m < 1073741824 → ∃ (k : Nat) (st' : Store), S.call 3 [.ref 0, .pv (.int m)] st = some (.ok (.pv (.int (k : Int))) st') ∧ (k : Int) < m ∧ Fed st'
theorem dr_of (n : Nat) : Dr (Pr.sem (n + 1)) := fun h _ h1 h2 => fed_draw (n := n) hdraw h h1 h2
def okB (x : Sg) : Bool := decide (1 ≤ x.length) && decide (x.length ≤ 4) && x.all fun c => decide (97 ≤ c) && decide (c ≤ 122)
theorem okB_ok {x : Sg} (h : okB x = true) : okN x := by
  simp only [okB, Bool.and_eq_true, List.all_eq_true, decide_eq_true_eq] at h
  exact h
/-! ### terms with free names -/
theorem free_of : ∀ (m n : Nat) (many : Nat) (st : Store), many ≤ m → 1 ≤ many → m + 2 ≤ n → m ≤ 20 → Fed st → ∃ (t : Tm) (st' : Store), (Pr.sem n).call 13 [.ref 0, .pv (.int (many : Int))] st = some (.ok (.pv t.tree) st') ∧ Fed st' ∧ t.good ∧ t.size + 1 ≤ 2 * many ∧ t.dep ≤ many := by
  intro m
  induction m with
  | zero => intro n many st h1 h2; omega
  | succ m ih =>
    intro n many st h1 h2 h3 h4 hf
    suffices H : ∃ (t : Tm) (st' : Store), Pr.cal n 13 [.ref 0, .pv (.int (many : Int))] st = some (.ok (.pv t.tree) st') ∧ Fed st' ∧ t.good ∧ t.size + 1 ≤ 2 * many ∧ t.dep ≤ many by
      obtain ⟨t, st', e, f, r⟩ := H
      exact ⟨t, st', call_fed' hf e f, f, r⟩
    obtain ⟨n, rfl⟩ : ∃ k, n = k + 2 := ⟨n - 2, by omega⟩
    rw [cal_eq Pr (n + 1) 13 m13 _ _ rfl rfl]
    have ih' := fun (many : Nat) (st : Store) (h1 : many ≤ m) (h2 : 1 ≤ many) (hf : Fed st) => ih (n + 1) many st h1 h2 (by omega) (by omega) hf
    have dr : Dr (Pr.sem (n + 1)) := dr_of n
    generalize Pr.sem (n + 1) = S at ih' dr ⊢
    obtain ⟨k, st1, e1, hk, f1⟩ := dr hf (m := 4) (by decide) (by decide)
    obtain ⟨j, st2, e2, hj, f2⟩ := dr f1 (m := 6) (by decide) (by decide)
    have c3 : doSlc (.str [102, 117, 110]) none (some 3) = some (.str [102, 117, 110]) := rfl
    obtain ⟨x, hx, ex⟩ : ∃ x, okN x ∧ atI [PV.str [97], .str [120], .str [121, 121], .str [97, 98, 99, 100], .str [102, 117, 110], .str [122]] (j : Int) = some (.str x) := by
      have : j = 0 ∨ j = 1 ∨ j = 2 ∨ j = 3 ∨ j = 4 ∨ j = 5 := by omega
      rcases this with z | z | z | z | z | z <;> subst z <;> exact ⟨_, okB_ok (by decide), rfl⟩
    by_cases hA : many < 2 ∨ k = 0
    · refine ⟨.var x, st2, ?_, f2, hx, by simp only [Tm.size]; omega, by simp only [Tm.dep]; omega⟩
      by_cases h2' : many < 2
      · have h2i : (many : Int) < 2 := by omega
        simp [m13, e1, c3, e2, ex, optL, h2i, Tm.tree]
      · have h2i : ¬ (many : Int) < 2 := by omega
        have hk0 : k = 0 := by omega
        subst hk0
        simp [m13, e1, c3, e2, ex, optL, h2i, Tm.tree]
    · have h2i : ¬ (many : Int) < 2 := by omega
      have hk0 : ¬ k = 0 := by omega
      by_cases h1k : k = 1
      · subst h1k
        obtain ⟨t, st3, e3, f3, g, s, d⟩ := ih' (many - 1) st2 (by omega) (by omega) f2
        rw [show ((many - 1 : Nat) : Int) = (many : Int) - 1 by omega] at e3
        refine ⟨.fn x t, st3, ?_, f3, ⟨hx, g⟩, by simp only [Tm.size]; omega, by simp only [Tm.dep]; omega⟩
        simp [m13, e1, c3, e2, ex, optL, h2i, e3, Tm.tree]
      · have h1i : ¬ (k : Int) = 1 := by omega
        obtain ⟨l, st3, e3, hl, f3⟩ := dr f2 (m := (many : Int) - 1) (by omega) (by omega)
        obtain ⟨a, st4, e4, f4, g4, s4, d4⟩ := ih' (1 + l) st3 (by omega) (by omega) f3
        obtain ⟨b, st5, e5, f5, g5, s5, d5⟩ := ih' (many - (1 + l)) st4 (by omega) (by omega) f4
        rw [show ((1 + l : Nat) : Int) = 1 + (l : Int) by push_cast; rfl] at e4
        rw [show ((many - (1 + l) : Nat) : Int) = (many : Int) - (1 + (l : Int)) by omega] at e5
        refine ⟨.use a b, st5, ?_, f5, ⟨g4, g5⟩, ?_, by simp only [Tm.dep]; omega⟩
        · simp [m13, e1, c3, e2, ex, optL, h2i, hk0, h1k, h1i, e3, e4, e5, Tm.tree]
        · simp only [Tm.size]
          omega
end Z15
end

section
namespace Z15
open Z
theorem flat_strs (xs : List Sg) : (xs.map PV.str).all flat = true := by
  rw [List.all_eq_true]
  intro p hp
  obtain ⟨x, _, rfl⟩ := List.mem_map.mp hp
  rfl
theorem any_strs (x : Sg) (xs : List Sg) : ((xs.map PV.str).any fun y => eqP y (.str x)) = decide (x ∈ xs) := by
  induction xs with
  | nil => rfl
  | cons y ys ih =>
    rw [List.map_cons, List.any_cons, ih]
    have : eqP (.str y) (.str x) = decide (y = x) := by
      simp only [eqP]
      exact Bool.eq_iff_iff.mpr (by simp)
    rw [this]
    by_cases h : y = x
    · subst h; simp
    · have h' : ¬ x = y := fun e => h e.symm
      simp [h, h']
theorem in_strs (x : Sg) (xs : List Sg) : doCmp .in_ (.str x) (.lst (xs.map .str)) = some (decide (x ∈ xs)) := by
  have e : doCmp .in_ (.str x) (.lst (xs.map .str)) = inFlat (.str x) (xs.map .str) := rfl
  rw [e]
  unfold inFlat
  rw [flat_strs, any_strs]
  rfl
theorem nin_strs (x : Sg) (xs : List Sg) : doCmp .nin (.str x) (.lst (xs.map .str)) = some (!decide (x ∈ xs)) := by
  have e : doCmp .nin (.str x) (.lst (xs.map .str)) = (doCmp .in_ (.str x) (.lst (xs.map .str))).map (!·) := rfl
  rw [e, in_strs]; rfl
def xs6 (k : Nat) : Nat := if k = 0 then 120 else if k = 1 then 121 else if k = 2 then 122 else if k = 3 then 117 else if k = 4 then 118 else 119
def nm (i : Nat) : Sg := [xs6 (i % 6), 97 + i / 6]
theorem xs6_inj {a b : Nat} (ha : a < 6) (hb : b < 6) (h : xs6 a = xs6 b) : a = b := by
  have : ∀ a < 6, ∀ b < 6, xs6 a = xs6 b → a = b := by decide
  exact this a ha b hb h
theorem nm_inj {i j : Nat} (h : nm i = nm j) : i = j := by
  simp only [nm, List.cons.injEq, and_true] at h
  have := xs6_inj (Nat.mod_lt _ (by decide)) (Nat.mod_lt _ (by decide)) h.1
  omega
theorem nm_ok {i : Nat} (h : i ≤ 150) : okN (nm i) := by
  have : ∀ a < 6, 97 ≤ xs6 a ∧ xs6 a ≤ 122 := by decide
  have h6 := this (i % 6) (Nat.mod_lt _ (by decide))
  refine ⟨⟨by simp [nm], by simp [nm]⟩, fun c hc => ?_⟩
  simp only [nm, List.mem_cons, List.not_mem_nil, or_false] at hc
  rcases hc with z | z <;> subst z
  · exact h6
  · omega
/-! ### the store: the feed, the count of names -/
structure Op (r s : Nat) (st : Store) : Prop where
  fed : ∃ F : Fd, st[0]? = some F.cell
  cnt : st[r]? = some (.lst true [.pv (.int (s : Int))])
  pos : 0 < r
theorem op_draw {n r s : Nat} {st : Store} (h : Op r s st) {m : Int} (h1 : 0 < m) (h2 : m < 1073741824) : ∃ (k : Nat) (st' : Store), (Pr.sem (n + 1)).call 3 [.ref 0, .pv (.int m)] st = some (.ok (.pv (.int (k : Int))) st') ∧ (k : Int) < m ∧ Op r s st' ∧ st'.length = st.length := by
  obtain ⟨F, hF⟩ := h.fed
  obtain ⟨k, e, hk⟩ := draw_nat F h1 h2
  have c := draw_call (P := Pr) (n := n) hdraw F h1 h2 hF
  rw [e] at c
  refine ⟨k, _, c, hk, ⟨⟨(F.draw m).2, ?_⟩, ?_, h.pos⟩, by simp⟩
  · rw [List.getElem?_set_self]
    exact (List.getElem?_eq_some_iff.mp hF).1
  · rw [List.getElem?_set_ne (by have := h.pos; omega)]
    exact h.cnt
theorem op_set {r s : Nat} {st : Store} (h : Op r s st) (s' : Nat) : Op r s' (st.set r (.lst true [.pv (.int (s' : Int))])) := by
  refine ⟨?_, ?_, h.pos⟩
  · obtain ⟨F, hF⟩ := h.fed
    exact ⟨F, by rw [List.getElem?_set_ne (by have := h.pos; omega)]; exact hF⟩
  · rw [List.getElem?_set_self]
    exact (List.getElem?_eq_some_iff.mp h.cnt).1
/-- a comprehension that keeps some -/
theorem lcLoop_sub {step : PV → Store → Option ERs} (I : Store → Prop) : ∀ (xs : List PV) (st : Store), I st → (∀ x ∈ xs, ∀ st, I st → ∃ (b : Bool) (st' : Store), step x st = some (.ok (if b then [.pv x] else []) st') ∧ I st') → ∃ (ys : List PV) (st' : Store), lcLoop step xs st = some (ys.map .pv, st') ∧ I st' ∧ ys.Sublist xs
  | [], st, h, _ => ⟨[], st, rfl, h, List.Sublist.slnil⟩
  | x :: xs, st, h, hs => by
    obtain ⟨b, st1, e1, i1⟩ := hs x (by simp) st h
    obtain ⟨ys, st2, e2, i2, l2⟩ := lcLoop_sub I xs st1 i1 fun y hy => hs y (by simp [hy])
    cases b with
    | true =>
      refine ⟨x :: ys, st2, ?_, i2, l2.cons_cons x⟩
      unfold lcLoop
      rw [e1]
      simp only [noX, e2, if_true, List.singleton_append, List.map_cons]
    | false =>
      refine ⟨ys, st2, ?_, i2, l2.cons x⟩
      unfold lcLoop
      rw [e1]
      simp [noX, e2]
def tA : MT := .boolop true [.cmp .eq (.bi .len [.var 1]) (.lit (.int 1)), .boolop false [.cmp .lt (.var 2) (.lit (.int 1)), .cmp .eq (.var 4) (.lit (.int 0))]]
def sA : List MS := [.ret (.tup [.lit (.str [118, 97, 114]), .idx (.var 1) (.lit (.int 0))])]
def tB : MT := .boolop false [.cmp .eq (.bi .len [.var 1]) (.lit (.int 0)), .boolop true [.cmp .gt (.var 2) (.lit (.int 0)), .cmp .eq (.var 4) (.lit (.int 1))]]
def sB0 : MS := .augI (.var 3) (.lit (.int 0)) .add (.lit (.int 1))
def sB1 : MS := .asg (.nm 7) (.bin .add (.idx (.lit (.str [120, 121, 122, 117, 118, 119])) (.bin .mod (.bi .int [.idx (.var 3) (.lit (.int 0))]) (.lit (.int 6)))) (.idx (.lit (.str [97, 98, 99, 100, 101, 102, 103, 104, 105, 106, 107, 108, 109, 110, 111, 112, 113, 114, 115, 116, 117, 118, 119, 120, 121, 122])) (.bin .fdiv (.idx (.var 3) (.lit (.int 0))) (.lit (.int 6)))))
def sB2 : MS := .iff (.cmp .lt (.var 2) (.lit (.int 1))) [.ret (.tup [.lit (.str [102, 117, 110]), .var 7, .tup [.lit (.str [118, 97, 114]), .var 7]])] []
def sB3 : MS := .ret (.tup [.lit (.str [102, 117, 110]), .var 7, .call 5 [.var 0, .bin .add (.var 1) (.lst false [.var 7]), .bin .sub (.var 2) (.lit (.int 1)), .var 3]])
def s5 : MS := .asg (.nm 5) (.lc false (.var 7) (.nm 7) .val [.var 1] [.cmp .eq (.call 3 [.var 0, .lit (.int 2)]) (.lit (.int 0))] [7])
def tC : MT := .boolop false [.cmp .lt (.var 2) (.lit (.int 1)), .cmp .gt (.call 3 [.var 0, .lit (.int 3)]) (.lit (.int 0))]
def sC : List MS := [.iff (.boolop true [.cmp .gt (.bi .len [.var 1]) (.lit (.int 1)), .boolop false [.cmp .eq (.bi .len [.var 5]) (.lit (.int 0)), .cmp .eq (.bi .len [.var 5]) (.bi .len [.var 1])]]) [.asg (.nm 5) (.slc (.var 1) false (.lit .non) true (.lit (.int 1)))] []]
def s6 : MS := .asg (.nm 6) (.lc false (.var 7) (.nm 7) .val [.var 1] [.cmp .nin (.var 7) (.var 5)] [7])
def s7 : MS := .ret (.tup [.lit (.str [117, 115, 101]), .call 5 [.var 0, .var 5, .bin .fdiv (.bin .sub (.var 2) (.lit (.int 1))) (.lit (.int 2)), .var 3], .call 5 [.var 0, .var 6, .bin .fdiv (.var 2) (.lit (.int 2)), .var 3]])
theorem open_body : m5.body = [.asg (.nm 4) (.call 3 [.var 0, .lit (.int 4)]), .iff tA sA [], .iff tB [sB0, sB1, sB2, sB3] [], s5, .iff tC sC [], s6, s7] := rfl
section
variable {S : Sem} {st : Store} {ns : List Sg} {fuel : Int} {r k s : Nat} {a0 a5 a6 a7 : Option LV}
theorem ev_A : evT S tA [a0, some (.pv (.lst (ns.map .str))), some (.pv (.int fuel)), some (.ref r), some (.pv (.int (k : Int))), a5, a6, a7] st = some (.ok (decide (ns.length = 1 ∧ (fuel < 1 ∨ k = 0))) st) := by
  have i1 : ((ns.length : Int) = 1) ↔ ns.length = 1 := by omega
  by_cases h1 : ns.length = 1 <;> by_cases h2 : fuel < 1 <;> by_cases h3 : k = 0 <;> simp [tA, h1, h2, h3, i1]
theorem ev_B : evT S tB [a0, some (.pv (.lst (ns.map .str))), some (.pv (.int fuel)), some (.ref r), some (.pv (.int (k : Int))), a5, a6, a7] st = some (.ok (decide (ns.length = 0 ∨ (0 < fuel ∧ k = 1))) st) := by
  have i1 : ((k : Int) = 1) ↔ k = 1 := by omega
  by_cases h1 : ns = [] <;> by_cases h2 : 0 < fuel <;> by_cases h3 : k = 1 <;> simp [tB, h1, h2, h3, i1]
theorem do_A {x : Sg} : exSs S sA [a0, some (.pv (.lst [.str x])), some (.pv (.int fuel)), some (.ref r), some (.pv (.int (k : Int))), a5, a6, a7] st = some (.rt (.pv (Tm.var x).tree) st) := by
  simp [sA, Tm.tree]
theorem do_B0 {φ : Slots} (h3 : φ[3]? = some (some (.ref r))) (h : Op r s st) : exS S sB0 φ st = some (.nx φ (st.set r (.lst true [.pv (.int ((s + 1 : Nat) : Int))]))) := by
  have g : getI (.ref r) (.pv (.int 0)) st = some (.ok (.pv (.int (s : Int))) st) := getI_ref h.cnt (by simp)
  have ad : ∀ i j : Int, doAug .add (.int i) (.int j) = some (.int (i + j)) := fun _ _ => rfl
  have sI : setI (.ref r) (.pv (.int 0)) (.pv (.int ((s : Int) + 1))) st = some (st.set r (.lst true [.pv (.int ((s : Int) + 1))])) := by
    simp only [setI, h.cnt]
    rfl
  simp [sB0, h3, g, ad, sI]
theorem do_B1 {φ : Slots} (h3 : φ[3]? = some (some (.ref r))) (h : Op r s st) (hs : s ≤ 150) : exS S sB1 φ st = some (.nx (φ.set 7 (some (.pv (.str (nm s))))) st) := by
  have g : getI (.ref r) (.pv (.int 0)) st = some (.ok (.pv (.int (s : Int))) st) := getI_ref h.cnt (by simp)
  have b1 : doBI .int [.int (s : Int)] = some (.int (s : Int)) := rfl
  have b2 : doBin .mod (.int (s : Int)) (.int 6) = some (.int ((s % 6 : Nat) : Int)) := rfl
  have b3 : doBin .fdiv (.int (s : Int)) (.int 6) = some (.int ((s / 6 : Nat) : Int)) := rfl
  have x1 : doIdx (.str [120, 121, 122, 117, 118, 119]) (.int ((s % 6 : Nat) : Int)) = some (.str [xs6 (s % 6)]) := by
    have : ∀ a : Nat, a < 6 → doIdx (.str [120, 121, 122, 117, 118, 119]) (.int (a : Int)) = some (.str [xs6 a]) := by
      intro a ha
      have : a = 0 ∨ a = 1 ∨ a = 2 ∨ a = 3 ∨ a = 4 ∨ a = 5 := by omega
      rcases this with z | z | z | z | z | z <;> subst z <;> rfl
    exact this _ (Nat.mod_lt _ (by decide))
  have x2 : doIdx (.str abc) (.int ((s / 6 : Nat) : Int)) = some (.str [97 + s / 6]) := by
    have h26 : s / 6 < 26 := by omega
    rw [idx_str (s := abc) (by decide) (by rw [show abc.length = 26 from rfl]; omega)]
    have : ∀ a : Nat, a < 26 → abc[a]? = some (97 + a) := by decide
    rw [this _ h26]; rfl
  have x3 : doBin .add (.str [xs6 (s % 6)]) (.str [97 + s / 6]) = some (.str (nm s)) := by rw [cat_str (by rw [line_eq]; simp)]; rfl
  generalize ((s % 6 : Nat) : Int) = u1 at b2 x1
  generalize ((s / 6 : Nat) : Int) = u2 at b3 x2
  simp only [abc] at x2
  have l0 : lenB .int [.pv (.int (s : Int))] st = none := rfl
  simp [sB1, h3, g, b1, b2, b3, x1, x2, x3]
theorem ev_C0 {a4 : Option LV} (h : fuel < 1) : evT S tC [a0, some (.pv (.lst (ns.map .str))), some (.pv (.int fuel)), some (.ref r), a4, a5, a6, a7] st = some (.ok true st) := by
  simp [tC, h]
theorem ev_C1 {a4 : Option LV} {st' : Store} (h : ¬ fuel < 1) (e : S.call 3 [.ref 0, .pv (.int 3)] st = some (.ok (.pv (.int (k : Int))) st')) : evT S tC [some (.ref 0), some (.pv (.lst (ns.map .str))), some (.pv (.int fuel)), some (.ref r), a4, a5, a6, a7] st = some (.ok (decide (0 < k)) st') := by
  simp [tC, h, e]
/-- left is what stands first, where it is nothing or all -/
theorem do_C {a4 : Option LV} {left : List Sg} : exSs S sC [a0, some (.pv (.lst (ns.map .str))), some (.pv (.int fuel)), some (.ref r), a4, some (.pv (.lst (left.map .str))), a6, a7] st = some (.nx [a0, some (.pv (.lst (ns.map .str))), some (.pv (.int fuel)), some (.ref r), a4, some (.pv (.lst ((if 1 < ns.length ∧ (left.length = 0 ∨ left.length = ns.length) then ns.take 1 else left).map .str))), a6, a7] st) := by
  have i1 : ((1 : Int) < ns.length) ↔ 1 < ns.length := by omega
  have i2 : ((left.length : Int) = ns.length) ↔ left.length = ns.length := by omega
  by_cases h1 : 1 < ns.length
  · have c := cut_to (ns.map PV.str) (k := 1) (by simp; omega)
    have c' : cut (ns.map PV.str) none (some 1) = (ns.map PV.str).take 1 := c
    have hne : ¬ ns = [] := fun e => by simp [e] at h1
    by_cases h2 : left = []
    · simp [sC, h1, h2, i1, optL, doSlc, c']
    · by_cases h3 : left.length = ns.length <;> simp [sC, h1, h2, h3, hne, i1, i2, optL, doSlc, c']
  · simp [sC, h1, i1]
theorem keep_loop (a0 a1 a2 a3 a4 a6 a7 : Option LV) (xs left : List Sg) : lcLoop (lcStep S (.var 7) (.nm 7) [.cmp .nin (.var 7) (.var 5)] [7] [a0, a1, a2, a3, a4, some (.pv (.lst (left.map .str))), a6, a7]) (xs.map .str) st = some (((xs.filter fun x => !decide (x ∈ left)).map PV.str).map .pv, st) := by
  induction xs with
  | nil => rfl
  | cons x xs ih =>
    have e : lcStep S (.var 7) (.nm 7) [.cmp .nin (.var 7) (.var 5)] [7] [a0, a1, a2, a3, a4, some (.pv (.lst (left.map .str))), a6, a7] (.str x) st = some (.ok (if x ∈ left then [] else [.pv (.str x)]) st) := by
      by_cases h : x ∈ left <;> simp [lcStep, wipeL, nin_strs, h]
    rw [List.map_cons]
    unfold lcLoop
    rw [e]
    simp only [noX, ih]
    by_cases h : x ∈ left <;> simp [h]
theorem do_6 {a4 : Option LV} {left : List Sg} (hl : ns.length ≤ 10000) : exS S s6 [a0, some (.pv (.lst (ns.map .str))), some (.pv (.int fuel)), some (.ref r), a4, some (.pv (.lst (left.map .str))), a6, a7] st = some (.nx [a0, some (.pv (.lst (ns.map .str))), some (.pv (.int fuel)), some (.ref r), a4, some (.pv (.lst (left.map .str))), some (.pv (.lst ((ns.filter fun x => !decide (x ∈ left)).map .str))), a7] st) := by
  have l : lcLoop (lcStep S (.var 7) (.nm 7) [.cmp .nin (.var 7) (.var 5)] [7] [a0, some (.pv (.lst (ns.map .str))), some (.pv (.int fuel)), some (.ref r), a4, some (.pv (.lst (left.map .str))), a6, a7]) (ns.map .str) st = some (((ns.filter fun x => !decide (x ∈ left)).map PV.str).map .pv, st) := by
    exact keep_loop _ _ _ _ _ _ _ _ left
  have l' := lcV_lst (live := false) l
  rw [mkLst_pv (by rw [List.length_map, line_eq]; have := List.length_filter_le (fun x => !decide (x ∈ left)) ns; omega)] at l'
  simp [s6, l']
end
theorem do_5 {n r s : Nat} {st : Store} {ns : List Sg} {fuel : Int} (hl : ns.length ≤ 10000) (h : Op r s st) (a4 a5 a6 a7 : Option LV) : ∃ (left : List Sg) (st' : Store), exS (Pr.sem (n + 1)) s5 [some (.ref 0), some (.pv (.lst (ns.map .str))), some (.pv (.int fuel)), some (.ref r), a4, a5, a6, a7] st = some (.nx [some (.ref 0), some (.pv (.lst (ns.map .str))), some (.pv (.int fuel)), some (.ref r), a4, some (.pv (.lst (left.map .str))), a6, a7] st') ∧ left.Sublist ns ∧ Op r s st' ∧ st'.length = st.length := by
  have dr := fun {st : Store} (h : Op r s st) {m : Int} (h1 : 0 < m) (h2 : m < 1073741824) => op_draw (n := n) h h1 h2
  generalize Pr.sem (n + 1) = S at dr ⊢
  obtain ⟨ys, st', e, ⟨i1, i2⟩, hs⟩ := lcLoop_sub (fun q => Op r s q ∧ q.length = st.length) (step := lcStep S (.var 7) (.nm 7) [.cmp .eq (.call 3 [.var 0, .lit (.int 2)]) (.lit (.int 0))] [7] [some (.ref 0), some (.pv (.lst (ns.map .str))), some (.pv (.int fuel)), some (.ref r), a4, a5, a6, a7]) (ns.map .str) st ⟨h, rfl⟩ fun x hx q ⟨hq, hql⟩ => by
    obtain ⟨k, st2, e2, hk, h2, l2⟩ := dr hq (m := 2) (by decide) (by decide)
    refine ⟨decide (k = 0), st2, ?_, h2, by omega⟩
    by_cases h0 : k = 0
    · subst h0; simp [lcStep, wipeL, e2]
    · simp [lcStep, wipeL, e2, h0]
  obtain ⟨left, hs', rfl⟩ := List.sublist_map_iff.mp hs
  have l' := lcV_lst (live := false) e
  have := hs'.length_le
  rw [mkLst_pv (by rw [List.length_map, line_eq]; omega)] at l'
  exact ⟨left, st', by simp [s5, l'], hs', i1, i2⟩
def B (fuel : Int) (n : Nat) : Nat := if fuel ≤ 0 then max 1 n else 2 * fuel.toNat + n + 1
theorem filter_two {α : Type} (p : α → Bool) (xs : List α) : (xs.filter p).length + (xs.filter fun x => !p x).length = xs.length := by
  induction xs with
  | nil => rfl
  | cons x xs ih => by_cases h : p x <;> simp [h] <;> omega
theorem parts_len {ns left : List Sg} (h : left.Sublist ns) : left.length + (ns.filter fun x => !decide (x ∈ left)).length ≤ ns.length := by
  have h1 := h.filter fun x => decide (x ∈ left)
  have h2 : left.filter (fun x => decide (x ∈ left)) = left := List.filter_eq_self.mpr fun x hx => by simp [hx]
  rw [h2] at h1
  have := h1.length_le
  have := filter_two (fun x => decide (x ∈ left)) ns
  omega
theorem B_use {f : Int} {n l r : Nat} (h1 : l + r ≤ n) (h2 : f < 1 → 1 ≤ l ∧ l < n) : B ((f - 1) / 2) l + B (f / 2) r ≤ B f n := by
  unfold B
  split <;> split <;> split <;> omega
/-- what comes of a drawn term -/
structure Out (names : List Sg) (r s : Nat) (fuel : Int) (st : Store) (t : Tm) (s' : Nat) (st' : Store) : Prop where
  op : Op r s' st'
  len : st'.length = st.length
  le : s ≤ s'
  few : s' ≤ s + B fuel names.length
  ok : t.good
  size : t.size + 1 = 2 * t.vars + (s' - s)
  dep : t.dep ≤ 2 * fuel.toNat + names.length + 2
theorem open_of : ∀ (μ : Nat) (fuel : Int) (ns : List Sg) (s r n : Nat) (st : Store), 2 * fuel.toNat + ns.length ≤ μ → μ + 3 ≤ n → -1 ≤ fuel → fuel ≤ 16 → ns.length ≤ 100 → (∀ x ∈ ns, ∃ j, j ≤ s ∧ x = nm j) → s + B fuel ns.length ≤ 100 → Op r s st →
    ∃ t s' st', (Pr.sem n).call 5 [.ref 0, .pv (.lst (ns.map .str)), .pv (.int fuel), .ref r] st = some (.ok (.pv t.tree) st') ∧ Out ns r s fuel st t s' st' := by
  intro μ
  induction μ using Nat.strongRecOn with
  | _ μ ih =>
  intro fuel ns s r n st hμ hn hf1 hf2 hlen hns hB hop
  suffices H : ∃ t s' st', Pr.cal n 5 [.ref 0, .pv (.lst (ns.map .str)), .pv (.int fuel), .ref r] st = some (.ok (.pv t.tree) st') ∧ Out ns r s fuel st t s' st' by
    obtain ⟨t, s', st', e, o⟩ := H
    exact ⟨t, s', st', call_len rfl e o.len, o⟩
  obtain ⟨n, rfl⟩ : ∃ m, n = m + 2 := ⟨n - 2, by omega⟩
  rw [cal_eq Pr (n + 1) 5 m5 _ _ rfl rfl, open_body, show m5.nn - m5.ar = 4 from rfl]
  obtain ⟨k, st1, e1, hk, o1, l1⟩ := op_draw (n := n) hop (m := 4) (by decide) (by decide)
  have eA := fun (a5 a6 a7 : Option LV) => ev_A (S := Pr.sem (n + 1)) (st := st1) (ns := ns) (fuel := fuel) (r := r) (k := k) (a0 := some (.ref 0)) (a5 := a5) (a6 := a6) (a7 := a7)
  have eB := fun (a5 a6 a7 : Option LV) => ev_B (S := Pr.sem (n + 1)) (st := st1) (ns := ns) (fuel := fuel) (r := r) (k := k) (a0 := some (.ref 0)) (a5 := a5) (a6 := a6) (a7 := a7)
  by_cases hA : ns.length = 1 ∧ (fuel < 1 ∨ k = 0)
  · obtain ⟨x, rfl⟩ := List.length_eq_one_iff.mp hA.1
    rw [decide_eq_true hA] at eA
    have dA := fun (a5 a6 a7 : Option LV) => do_A (S := Pr.sem (n + 1)) (st := st1) (fuel := fuel) (r := r) (k := k) (a0 := some (.ref 0)) (a5 := a5) (a6 := a6) (a7 := a7) (x := x)
    obtain ⟨j, hj, rfl⟩ := hns x (by simp)
    have hjok : okN (nm j) := nm_ok (by omega)
    refine ⟨.var (nm j), s, st1, ?_, ⟨o1, l1, Nat.le_refl _, by omega, hjok, by simp [Tm.size, Tm.vars], by simp only [Tm.dep]; omega⟩⟩
    simp at eA
    simp [e1, eA, dA]
  · rw [decide_eq_false hA] at eA
    by_cases hB' : ns.length = 0 ∨ (0 < fuel ∧ k = 1)
    · rw [decide_eq_true hB'] at eB
      have hB1 : 1 ≤ B fuel ns.length := by unfold B; split <;> omega
      have q0 := fun (a5 a6 a7 : Option LV) => do_B0 (S := Pr.sem (n + 1)) (φ := [some (.ref 0), some (.pv (.lst (ns.map .str))), some (.pv (.int fuel)), some (.ref r), some (.pv (.int (k : Int))), a5, a6, a7]) rfl o1
      obtain ⟨st2, hst2⟩ : ∃ st2, st2 = st1.set r (.lst true [.pv (.int ((s + 1 : Nat) : Int))]) := ⟨_, rfl⟩
      have o2 : Op r (s + 1) st2 := hst2 ▸ op_set o1 (s + 1)
      have l2 : st2.length = st.length := by rw [hst2, List.length_set, l1]
      rw [← hst2] at q0
      have q1 := fun (a5 a6 a7 : Option LV) => do_B1 (S := Pr.sem (n + 1)) (φ := [some (.ref 0), some (.pv (.lst (ns.map .str))), some (.pv (.int fuel)), some (.ref r), some (.pv (.int (k : Int))), a5, a6, a7]) rfl o2 (by omega)
      have hok : okN (nm (s + 1)) := nm_ok (by omega)
      by_cases hf : fuel < 1
      · have hz : ns = [] := by
          rcases hB' with h | h
          · exact List.length_eq_zero_iff.mp h
          · omega
        subst hz
        refine ⟨.fn (nm (s + 1)) (.var (nm (s + 1))), s + 1, st2, ?_, ⟨o2, l2, by omega, by omega, ⟨hok, hok⟩, by simp [Tm.size, Tm.vars], by simp only [Tm.dep]; omega⟩⟩
        simp at eA eB q0 q1
        simp [e1, eA, eB, q0, q1, sB2, hf, Tm.tree]
      · have c5 : doBin .add (.lst (ns.map .str)) (.lst [.str (nm (s + 1))]) = some (.lst ((ns ++ [nm (s + 1)]).map .str)) := by rw [cat_lst (by rw [line_eq]; simp; omega)]; simp
        have hB2 : B (fuel - 1) (ns ++ [nm (s + 1)]).length + 1 ≤ B fuel ns.length := by
          unfold B
          simp only [List.length_append, List.length_cons, List.length_nil]
          split <;> split <;> omega
        obtain ⟨t, s', st', e, o⟩ := ih (2 * (fuel - 1).toNat + (ns ++ [nm (s + 1)]).length) (by simp; omega) (fuel - 1) (ns ++ [nm (s + 1)]) (s + 1) r (n + 1) st2 (Nat.le_refl _) (by simp; omega) (by omega) (by omega) (by simp; unfold B at hB; split at hB <;> omega) (fun x hx => by
          rcases List.mem_append.mp hx with z | z
          · obtain ⟨j, hj, e⟩ := hns x z
            exact ⟨j, by omega, e⟩
          · exact ⟨s + 1, Nat.le_refl _, List.mem_singleton.mp z⟩) (by omega) o2
        have := o.le
        have := o.few
        have := o.size
        refine ⟨.fn (nm (s + 1)) t, s', st', ?_, ⟨o.op, by rw [o.len, l2], by omega, by omega, ⟨hok, o.ok⟩, by simp only [Tm.size, Tm.vars]; omega, by have := o.dep; simp only [List.length_append, List.length_cons, List.length_nil] at this; simp only [Tm.dep]; omega⟩⟩
        simp only [List.map_append, List.map_cons, List.map_nil] at c5 e
        simp at eA eB q0 q1
        simp [e1, eA, eB, q0, q1, sB2, sB3, hf, c5, e, Tm.tree]
    · rw [decide_eq_false hB'] at eB
      obtain ⟨left0, st2, e5, hs0, o2, l2⟩ := do_5 (n := n) (fuel := fuel) (ns := ns) (by omega) o1 (some (.pv (.int (k : Int)))) none none none
      -- what is left
      obtain ⟨left, st3, eC, hs, o3, l3, hl⟩ : ∃ (left : List Sg) (st3 : Store), exS (Pr.sem (n + 1)) (.iff tC sC []) [some (.ref 0), some (.pv (.lst (ns.map .str))), some (.pv (.int fuel)), some (.ref r), some (.pv (.int (k : Int))), some (.pv (.lst (left0.map .str))), none, none] st2 = some (.nx [some (.ref 0), some (.pv (.lst (ns.map .str))), some (.pv (.int fuel)), some (.ref r), some (.pv (.int (k : Int))), some (.pv (.lst (left.map .str))), none, none] st3) ∧ left.Sublist ns ∧ Op r s st3 ∧ st3.length = st.length ∧ (fuel < 1 → 1 ≤ left.length ∧ left.length < ns.length) := by
        have sub1 : (if 1 < ns.length ∧ (left0.length = 0 ∨ left0.length = ns.length) then ns.take 1 else left0).Sublist ns := by
          split
          · exact List.take_sublist _ _
          · exact hs0
        by_cases hf : fuel < 1
        · have c0 := ev_C0 (S := Pr.sem (n + 1)) (st := st2) (ns := ns) (r := r) (a0 := some (.ref 0)) (a4 := some (.pv (.int (k : Int)))) (a5 := some (.pv (.lst (left0.map .str)))) (a6 := none) (a7 := none) hf
          have dC := do_C (S := Pr.sem (n + 1)) (st := st2) (ns := ns) (fuel := fuel) (r := r) (a0 := some (.ref 0)) (a4 := some (.pv (.int (k : Int)))) (left := left0) (a6 := none) (a7 := none)
          refine ⟨_, st2, by rw [exS_iff, c0, T.bf_ok, if_pos rfl]; exact dC, sub1, o2, by omega, fun _ => ?_⟩
          have := hs0.length_le
          split
          · rename_i hc
            rw [List.length_take]
            omega
          · rename_i hc
            omega
        · obtain ⟨j, st3, e3, hj, o3, l3⟩ := op_draw (n := n) o2 (m := 3) (by decide) (by decide)
          have c1 := ev_C1 (S := Pr.sem (n + 1)) (st := st2) (ns := ns) (r := r) (k := j) (a4 := some (.pv (.int (k : Int)))) (a5 := some (.pv (.lst (left0.map .str)))) (a6 := none) (a7 := none) hf e3
          have dC := do_C (S := Pr.sem (n + 1)) (st := st3) (ns := ns) (fuel := fuel) (r := r) (a0 := some (.ref 0)) (a4 := some (.pv (.int (k : Int)))) (left := left0) (a6 := none) (a7 := none)
          by_cases hj0 : 0 < j
          · rw [decide_eq_true hj0] at c1
            exact ⟨_, st3, by rw [exS_iff, c1, T.bf_ok, if_pos rfl]; exact dC, sub1, o3, by omega, fun h => absurd h hf⟩
          · rw [decide_eq_false hj0] at c1
            exact ⟨left0, st3, by rw [exS_iff, c1, T.bf_ok, if_neg (by decide)]; rfl, hs0, o3, by omega, fun h => absurd h hf⟩
      have pl := parts_len hs
      have sl := hs.length_le
      have bu := B_use (f := fuel) (n := ns.length) (l := left.length) (r := (ns.filter fun x => !decide (x ∈ left)).length) pl hl
      have d6 := do_6 (S := Pr.sem (n + 1)) (st := st3) (ns := ns) (fuel := fuel) (r := r) (a0 := some (.ref 0)) (a4 := some (.pv (.int (k : Int)))) (left := left) (a6 := none) (a7 := none) (by omega)
      have mu1 : 2 * ((fuel - 1) / 2).toNat + left.length < μ := by
        by_cases hf : fuel < 1
        · have := hl hf
          omega
        · omega
      have mu2 : 2 * (fuel / 2).toNat + (ns.filter fun x => !decide (x ∈ left)).length < μ := by
        by_cases hf : fuel < 1
        · have := hl hf
          omega
        · omega
      obtain ⟨a, s1, st4, ea, oa⟩ := ih (2 * ((fuel - 1) / 2).toNat + left.length) mu1 ((fuel - 1) / 2) left s r (n + 1) st3 (Nat.le_refl _) (by omega) (by omega) (by omega) (by omega) (fun x hx => hns x (hs.subset hx)) (by omega) o3
      have f1 := oa.few
      have g1 := oa.le
      obtain ⟨b, s', st5, eb, ob⟩ := ih (2 * (fuel / 2).toNat + (ns.filter fun x => !decide (x ∈ left)).length) mu2 (fuel / 2) (ns.filter fun x => !decide (x ∈ left)) s1 r (n + 1) st4 (Nat.le_refl _) (by omega) (by omega) (by omega) (by omega) (fun x hx => by
        obtain ⟨j, hj, e⟩ := hns x (List.mem_filter.mp hx).1
        exact ⟨j, by omega, e⟩) (by omega) oa.op
      have f2 := ob.few
      have g2 := ob.le
      have z1 := oa.size
      have z2 := ob.size
      refine ⟨.use a b, s', st5, ?_, ⟨ob.op, by rw [ob.len, oa.len, l3], by omega, by omega, ⟨oa.ok, ob.ok⟩, by simp only [Tm.size, Tm.vars]; omega, by
        have := oa.dep
        have := ob.dep
        simp only [Tm.dep]
        by_cases hf : fuel < 1
        · have := hl hf
          omega
        · omega⟩⟩
      have v1 : doBin .fdiv (.int (fuel - 1)) (.int 2) = some (.int ((fuel - 1) / 2)) := rfl
      have v2 : doBin .fdiv (.int fuel) (.int 2) = some (.int (fuel / 2)) := rfl
      generalize (fuel - 1) / 2 = w1 at v1 ea
      generalize fuel / 2 = w2 at v2 eb
      generalize (ns.filter fun x => !decide (x ∈ left)) = right at d6 eb
      generalize hC : MS.iff tC sC [] = C at eC ⊢
      generalize h6 : s6 = D6 at d6 ⊢
      generalize h5 : s5 = D5 at e5 ⊢
      simp [e1, eA, eB, e5, eC, d6, s7, v1, v2, ea, eb, Tm.tree]
end Z15
end

section
namespace Z15
open Z
theorem forLoop_or {step : PV → Slots → Store → Option FR} (I : Slots → Store → Prop) (Q : LV → Store → Prop) : ∀ (xs : List PV) (φ : Slots) (st : Store), I φ st →
    (∀ x φ st, I φ st → (∃ φ' st', step x φ st = some (.nx φ' st') ∧ I φ' st') ∨ ∃ v st', step x φ st = some (.rt v st') ∧ Q v st') →
    (∃ φ' st', forLoop step xs φ st = some (.nx φ' st') ∧ I φ' st') ∨ ∃ v st', forLoop step xs φ st = some (.rt v st') ∧ Q v st'
  | [], φ, st, h, _ => .inl ⟨φ, st, rfl, h⟩
  | x :: xs, φ, st, h, hs => by
    rw [forLoop_cons]
    rcases hs x φ st h with ⟨φ', st', e, i⟩ | ⟨v, st', e, q⟩
    · rw [e]
      exact forLoop_or I Q xs φ' st' i hs
    · rw [e]
      exact .inr ⟨v, st', rfl, q⟩
/-- what is drawn in the end -/
structure TG (t : Tm) : Prop where
  ok : t.good
  size : t.size ≤ 60
def last : Tm := .fn [120] (.fn [121] (.use (.var [121]) (.var [120])))
theorem last_TG : TG last := ⟨⟨okB_ok (by decide), okB_ok (by decide), okB_ok (by decide), okB_ok (by decide)⟩, by decide⟩
def HasF (st : Store) : Prop := ∃ F : Fd, st[0]? = some F.cell
theorem hasF_draw {n : Nat} {st : Store} (h : HasF st) {m : Int} (h1 : 0 < m) (h2 : m < 1073741824) : ∃ (k : Nat) (st' : Store), (Pr.sem (n + 1)).call 3 [.ref 0, .pv (.int m)] st = some (.ok (.pv (.int (k : Int))) st') ∧ (k : Int) < m ∧ HasF st' := by
  obtain ⟨F, hF⟩ := h
  obtain ⟨k, e, hk⟩ := draw_nat F h1 h2
  have c := draw_call (P := Pr) (n := n) hdraw F h1 h2 hF
  rw [e] at c
  exact ⟨k, _, c, hk, (F.draw m).2, by
    rw [List.getElem?_set_self]
    exact (List.getElem?_eq_some_iff.mp hF).1⟩
theorem hasF_cons {st : Store} (h : HasF st) : ∃ (F : Fd) (g : Store), st = F.cell :: g := by
  obtain ⟨F, hF⟩ := h
  cases st with
  | nil => simp at hF
  | cons c g =>
    simp at hF
    exact ⟨F, g, by rw [hF]⟩
theorem term_drawn {n : Nat} {st : Store} (most : Nat) (hm1 : 1 ≤ most) (hm2 : most ≤ 14) (h : Fed st) : ∃ t st', (Pr.sem (n + 40)).call 7 [.ref 0, .pv (.int (most : Int))] st = some (.ok (.pv (Tm.tree t)) st') ∧ Fed st' ∧ TG t := by
  suffices H : ∃ t st', Pr.cal (n + 40) 7 [.ref 0, .pv (.int (most : Int))] st = some (.ok (.pv (Tm.tree t)) st') ∧ HasF st' ∧ TG t by
    obtain ⟨t, st', e, f, g⟩ := H
    obtain ⟨F, q, rfl⟩ := hasF_cons f
    exact ⟨t, _, call_fed h e, ⟨F, rfl⟩, g⟩
  rw [cal_eq Pr (n + 39) 7 m7 _ _ rfl rfl]
  have dr := fun {st : Store} (h : HasF st) {m : Int} (h1 : 0 < m) (h2 : m < 1073741824) => hasF_draw (n := n + 38) h h1 h2
  have op := fun (fuel : Int) (r : Nat) (st : Store) (h1 : 1 ≤ fuel) (h2 : fuel ≤ 15) (o : Op r 0 st) => open_of 30 fuel [] 0 r (n + 39) st (by simp; omega) (by omega) (by omega) (by omega) (by simp) (fun x hx => by simp at hx) (by unfold B; split <;> simp <;> omega) o
  have mv := fun (t : Tm) (h : t.dep ≤ 36) (st : Store) => call1 (P := Pr) (f := 6) (st := st) rfl (many_of t (n + 39) (by omega))
  generalize Pr.sem (n + 39) = S at dr op mv ⊢
  have hF : HasF st := by
    obtain ⟨F, rfl⟩ := h
    exact ⟨F, rfl⟩
  have loop := forLoop_or (step := forStep S (.nm 2) (match m7.body.getD 0 .pass with
      | .for_ _ _ _ b => b
      | _ => [])) (fun φ st => HasF st ∧ ∃ a2 a3, φ = [some (.ref 0), some (.pv (.int (most : Int))), a2, a3]) (fun v st => ∃ t, v = .pv (Tm.tree t) ∧ HasF st ∧ TG t) ((upto 0 6).map .int) [some (.ref 0), some (.pv (.int (most : Int))), none, none] st ⟨hF, _, _, rfl⟩ fun x φ st hi => by
    obtain ⟨hF, a2, a3, rfl⟩ := hi
    obtain ⟨j, st1, e1, hj, f1⟩ := dr hF (m := (most : Int) + 1) (by omega) (by omega)
    have o : Op st1.length 0 (st1 ++ [.lst true [.pv (.int 0)]]) := by
      obtain ⟨F, hF1⟩ := f1
      have h0 := (List.getElem?_eq_some_iff.mp hF1).1
      refine ⟨⟨F, ?_⟩, ?_, h0⟩
      · rw [List.getElem?_append_left h0]; exact hF1
      · simp
    obtain ⟨t, s', st3, e3, out⟩ := op (1 + (j : Int)) st1.length _ (by omega) (by omega) o
    have hd := out.dep
    have hB := out.few
    have hz := out.size
    have hB' : B (1 + (j : Int)) ([] : List Sg).length ≤ 31 := by unfold B; split <;> simp <;> omega
    simp only [List.length_nil] at hd
    have m1 := mv t (by omega) st3
    have ml := mkLst_live [LV.pv (.int 0)] (st := st1) (by decide)
    simp only [List.map_nil] at e3
    have hF3 : HasF st3 := out.op.fed
    by_cases hv : t.vars ≤ most
    · refine .inr ⟨.pv t.tree, st3, ?_, t, rfl, hF3, out.ok, by omega⟩
      · have hv' : (t.vars : Int) ≤ (most : Int) := by omega
        simp [m7, forStep, e1, ml, e3, m1, hv']
    · have hv' : ¬ (t.vars : Int) ≤ (most : Int) := by omega
      refine .inl ⟨[some (.ref 0), some (.pv (.int (most : Int))), some (.pv x), some (.pv t.tree)], st3, ?_, hF3, _, _, rfl⟩
      simp [m7, forStep, e1, ml, e3, m1, hv']
  have fv := forV_upto (n := 6) (by decide) (forStep S (.nm 2) (match m7.body.getD 0 .pass with
      | .for_ _ _ _ b => b
      | _ => [])) [some (.ref 0), some (.pv (.int (most : Int))), none, none] st
  rcases loop with ⟨φ', st', e, hF', a2, a3, rfl⟩ | ⟨v, st', e, t, rfl, hF', tg⟩
  · rw [e] at fv
    refine ⟨last, st', ?_, hF', last_TG⟩
    simp [m7] at fv
    simp [m7, fv, last, Tm.tree]
  · rw [e] at fv
    refine ⟨t, st', ?_, hF', tg⟩
    simp [m7] at fv
    simp [m7, fv]
end Z15
end

section
namespace Z15
open Z
theorem sign_at (s : Sg) (hs : s.length ≤ line) {k : Nat} (h : k < s.length) : ∃ y, doIdx (.str s) (.int (k : Int)) = some (.str [y]) := by
  rw [idx_str hs h, List.getElem?_eq_getElem h]
  exact ⟨_, rfl⟩
theorem cut_behind (t : Sg) (k : Nat) : cut t (some (k : Int)) none = t.drop k := by
  by_cases h : k ≤ t.length
  · exact cut_from t h
  · rw [cut_from_big t (by omega), List.drop_eq_nil_of_le (by omega)]
theorem cut_two (t : Sg) (k : Nat) (h : k ≤ t.length) : cut t (some (k : Int)) (some ((k : Int) + 2)) = (t.drop k).take 2 := by
  unfold cut sIx
  have h0 : ¬ ((k : Int) < 0) := by omega
  have h1 : ¬ ((k : Int) + 2 < 0) := by omega
  have h2 : ((k : Int) + 2).toNat = k + 2 := by omega
  simp only [if_neg h0, if_neg h1, h2, Int.toNat_natCast, Nat.min_eq_left h]
  by_cases h3 : k + 2 ≤ t.length
  · rw [Nat.min_eq_left h3, show k + 2 - k = 2 by omega]
  · rw [Nat.min_eq_right (by omega)]
    have hl : (t.drop k).length = t.length - k := List.length_drop
    rw [List.take_of_length_le (by omega), List.take_of_length_le (by omega)]
abbrev rightB : List MS := match m14.body.getD 3 .pass with
  | .for_ _ _ _ b => b
  | _ => []
theorem Tm.count40 : ∀ t : Tm, t.good → t.text.count 40 ≤ t.size
  | .var x, g => by
    have g' : okN x := g
    have : x.count 40 = 0 := List.count_eq_zero.mpr fun h => by
      have := g'.2 40 h
      omega
    simp only [Tm.text, Tm.size]; omega
  | .fn x b, g => by
    have : x.count 40 = 0 := List.count_eq_zero.mpr fun h => by
      have := g.1.2 40 h
      omega
    have := b.count40 g.2
    simp [Tm.text, Tm.size, List.count_cons, List.count_append]
    omega
  | .use a b, g => by
    have := a.count40 g.1
    have := b.count40 g.2
    simp [Tm.text, Tm.size, List.count_cons, List.count_append]
    omega
theorem bend {n : Nat} (hn : 110 ≤ n + 1) (text : Sg) (hl : text.length ≤ 500) (hc : text.count 40 ≤ 61) (x : PV) (a1 a3 a5 a6 a7 : Option LV) {a4 : Option LV} {st : Store} (hf : Fed st) : ∃ b5 b6 b7 st', forStep (Pr.sem (n + 1)) (.nm 4) rightB x [some (.ref 0), a1, some (.pv (.str text)), a3, a4, a5, a6, a7] st = some (.nx [some (.ref 0), a1, some (.pv (.str text)), a3, some (.pv x), b5, b6, b7] st') ∧ Fed st' := by
  have dr : Dr (Pr.sem (n + 1)) := dr_of n
  have bs := fun (t : Sg) (hc : t.count 40 < 100) (hl : t.length ≤ 2000) => both_same (m := n + 1) t hn hc (by rw [line_eq]; omega)
  generalize Pr.sem (n + 1) = S at dr bs ⊢
  have cat : ∀ a b c : Sg, c = a ++ b → a.length ≤ 1000 → b.length ≤ 1000 → doBin .add (.str a) (.str b) = some (.str c) := fun a b c h ha hb => by
    rw [h]; exact cat_str (by rw [line_eq]; omega)
  have line1 : text.length ≤ line := by rw [line_eq]; omega
  have l0 := len_str line1
  obtain ⟨k, st1, e1, hk, f1⟩ := dr hf (m := (text.length : Int) + 1) (by omega) (by omega)
  obtain ⟨k2, st2, e2, hk2, f2⟩ := dr f1 (m := 7) (by decide) (by decide)
  obtain ⟨k3, st3, e3, hk3, f3⟩ := dr f2 (m := 5) (by decide) (by decide)
  obtain ⟨k4, st4, e4, hk4, f4⟩ := dr f3 (m := 3) (by decide) (by decide)
  have hkl : k ≤ text.length := by omega
  obtain ⟨y, hy⟩ := sign_at [97, 120, 40, 41, 46, 32, 122] (by decide) (k := k2) (by simp; omega)
  have k1 : (k : Int) + 1 = ((k + 1 : Nat) : Int) := by push_cast; rfl
  have k2' : (k : Int) + 2 = ((k + 2 : Nat) : Int) := by push_cast; rfl
  obtain ⟨p, hp⟩ : ∃ p, p = text.take k := ⟨_, rfl⟩
  obtain ⟨q0, hq0⟩ : ∃ q, q = text.drop k := ⟨_, rfl⟩
  obtain ⟨q1, hq1⟩ : ∃ q, q = text.drop (k + 1) := ⟨_, rfl⟩
  obtain ⟨q2, hq2⟩ : ∃ q, q = text.drop (k + 2) := ⟨_, rfl⟩
  obtain ⟨m, hm⟩ : ∃ q, q = (text.drop k).take 2 := ⟨_, rfl⟩
  have sA : doSlc (.str text) none (some (k : Int)) = some (.str p) := by simp only [doSlc, if_pos line1, cut_to text hkl, hp]
  have sB : doSlc (.str text) (some (k : Int)) none = some (.str q0) := by simp only [doSlc, if_pos line1, cut_behind, hq0]
  have sC : doSlc (.str text) (some ((k : Int) + 1)) none = some (.str q1) := by
    rw [k1]; simp only [doSlc, if_pos line1, cut_behind, hq1]
  have sD : doSlc (.str text) (some ((k : Int) + 2)) none = some (.str q2) := by
    rw [k2']; simp only [doSlc, if_pos line1, cut_behind, hq2]
  have sE : doSlc (.str text) (some (k : Int)) (some ((k : Int) + 2)) = some (.str m) := by simp only [doSlc, if_pos line1, cut_two text k hkl, hm]
  have lp : p.length ≤ 500 := by rw [hp, List.length_take]; omega
  have lq0 : q0.length ≤ 500 := by rw [hq0, List.length_drop]; omega
  have lq1 : q1.length ≤ 500 := by rw [hq1, List.length_drop]; omega
  have lq2 : q2.length ≤ 500 := by rw [hq2, List.length_drop]; omega
  have lm : m.length ≤ 2 := by rw [hm, List.length_take]; omega
  have n0 : p.count 40 + q0.count 40 = text.count 40 := by rw [hp, hq0, ← List.count_append, List.take_append_drop]
  have n1 : q1.count 40 ≤ q0.count 40 := by
    rw [hq0, hq1, ← List.drop_drop]
    exact (List.drop_suffix 1 _).sublist.count_le 40
  have n2 : m.count 40 + q2.count 40 = q0.count 40 := by rw [hm, hq2, hq0, ← List.drop_drop, ← List.count_append, List.take_append_drop]
  have ny : ([y] : Sg).count 40 ≤ 1 := List.count_le_length
  obtain ⟨m', hm'⟩ : ∃ z, z = m.reverse := ⟨_, rfl⟩
  obtain ⟨o0, h0⟩ : ∃ z, z = p ++ q1 := ⟨_, rfl⟩
  obtain ⟨z1, hz1⟩ : ∃ z, z = p ++ [y] := ⟨_, rfl⟩
  obtain ⟨o1, h1⟩ : ∃ z, z = z1 ++ q0 := ⟨_, rfl⟩
  obtain ⟨o2, h2⟩ : ∃ z, z = z1 ++ q1 := ⟨_, rfl⟩
  obtain ⟨z2, hz2⟩ : ∃ z, z = p ++ m' := ⟨_, rfl⟩
  obtain ⟨o4, h4⟩ : ∃ z, z = z2 ++ q2 := ⟨_, rfl⟩
  have lm' : m'.length ≤ 2 := by rw [hm', List.length_reverse]; exact lm
  have lz1 : z1.length ≤ 501 := by rw [hz1]; simp; omega
  have lz2 : z2.length ≤ 502 := by rw [hz2]; simp; omega
  have c0 := cat p q1 o0 h0 (by omega) (by omega)
  have c1 := cat p [y] z1 hz1 (by omega) (by simp)
  have c2 := cat z1 q0 o1 h1 (by omega) (by omega)
  have c3 := cat z1 q1 o2 h2 (by omega) (by omega)
  have c4 := cat p m' z2 hz2 (by omega) (by omega)
  have c5 := cat z2 q2 o4 h4 (by omega) (by omega)
  obtain ⟨o, ho, no, lo⟩ : ∃ o, atI [PV.str o0, .str o1, .str o2, .str p, .str o4] (k3 : Int) = some (.str o) ∧ o.count 40 ≤ 62 ∧ o.length ≤ 1100 := by
    have : k3 = 0 ∨ k3 = 1 ∨ k3 = 2 ∨ k3 = 3 ∨ k3 = 4 := by omega
    rcases this with z | z | z | z | z <;> subst z
    · exact ⟨o0, rfl, by rw [h0, List.count_append]; omega, by rw [h0, List.length_append]; omega⟩
    · exact ⟨o1, rfl, by rw [h1, hz1, List.count_append, List.count_append]; omega, by rw [h1, List.length_append]; omega⟩
    · exact ⟨o2, rfl, by rw [h2, hz1, List.count_append, List.count_append]; omega, by rw [h2, List.length_append]; omega⟩
    · exact ⟨p, rfl, by omega, by omega⟩
    · exact ⟨o4, rfl, by rw [h4, hz2, hm', List.count_append, List.count_append, List.count_reverse]; omega, by rw [h4, List.length_append]; omega⟩
  have rv : m.length ≤ 2 := lm
  have lo' := len_str (s := o) (by rw [line_eq]; omega)
  have eb : rightB = [.asg (.nm 5) (.call 3 [.var 0, .bin .add (.bi .len [.var 2]) (.lit (.int 1))]), .asg (.nm 6) (.idx (.lit (.str [97, 120, 40, 41, 46, 32, 122])) (.call 3 [.var 0, .lit (.int 7)])), .asg (.nm 7) (.idx (.lst false [.bin .add (.slc (.var 2) false (.lit .non) true (.var 5)) (.slc (.var 2) true (.bin .add (.var 5) (.lit (.int 1))) false (.lit .non)), .bin .add (.bin .add (.slc (.var 2) false (.lit .non) true (.var 5)) (.var 6)) (.slc (.var 2) true (.var 5) false (.lit .non)), .bin .add (.bin .add (.slc (.var 2) false (.lit .non) true (.var 5)) (.var 6)) (.slc (.var 2) true (.bin .add (.var 5) (.lit (.int 1))) false (.lit .non)), .slc (.var 2) false (.lit .non) true (.var 5), .bin .add (.bin .add (.slc (.var 2) false (.lit .non) true (.var 5)) (.rev (.slc (.var 2) true (.var 5) true (.bin .add (.var 5) (.lit (.int 2)))))) (.slc (.var 2) true (.bin .add (.var 5) (.lit (.int 2))) false (.lit .non))]) (.call 3 [.var 0, .lit (.int 5)]))] ++ rightB.drop 3 := rfl
  have er : rightB.drop 3 = [.iff (.boolop true [.cmp .eq (.call 3 [.var 0, .lit (.int 3)]) (.lit (.int 0)), .cmp .gt (.bi .len [.var 7]) (.lit (.int 0))]) [.asg (.nm 5) (.call 3 [.var 0, .bi .len [.var 7]]), .asg (.nm 7) (.bin .add (.bin .add (.slc (.var 7) false (.lit .non) true (.var 5)) (.idx (.lit (.str [41, 40, 46, 32, 97])) (.call 3 [.var 0, .lit (.int 5)]))) (.slc (.var 7) true (.bin .add (.var 5) (.lit (.int 1))) false (.lit .non)))] [], .iff (.not (.val (.call 4 [.call 12 [.var 7], .call 11 [.var 7]]))) [.ret (.lit (.bl false))] []] := rfl
  have front : ∀ b, exSs S (rightB.drop 3) [some (.ref 0), a1, some (.pv (.str text)), a3, some (.pv x), some (.pv (.int (k : Int))), some (.pv (.str [y])), some (.pv (.str o))] st3 = b → forStep S (.nm 4) rightB x [some (.ref 0), a1, some (.pv (.str text)), a3, a4, a5, a6, a7] st = b := by
    intro b hb
    rw [eb]
    generalize rightB.drop 3 = rest at hb ⊢
    simp [forStep, l0, e1, e2, hy, optL, sA, sB, sC, sD, sE, rv, hm'.symm, c0, c1, c2, c3, c4, c5, e3, ho, hb]
  by_cases hk0 : k4 = 0 ∧ 0 < o.length
  · obtain ⟨h40, hol⟩ := hk0
    subst h40
    have hol' : (0 : Int) < o.length := by omega
    have hne : ¬ o = [] := fun e => by rw [e] at hol; simp at hol
    obtain ⟨i, st5, e5, hi, f5⟩ := dr f4 (m := (o.length : Int)) (by omega) (by omega)
    obtain ⟨j, st6, e6, hj, f6⟩ := dr f5 (m := 5) (by decide) (by decide)
    obtain ⟨w, hw⟩ := sign_at [41, 40, 46, 32, 97] (by decide) (k := j) (by simp; omega)
    have hil : i ≤ o.length := by omega
    have lineo : o.length ≤ line := by rw [line_eq]; omega
    have i1 : (i : Int) + 1 = ((i + 1 : Nat) : Int) := by push_cast; rfl
    obtain ⟨u, hu⟩ : ∃ p, p = o.take i := ⟨_, rfl⟩
    obtain ⟨v, hv⟩ : ∃ p, p = o.drop (i + 1) := ⟨_, rfl⟩
    have tA : doSlc (.str o) none (some (i : Int)) = some (.str u) := by simp only [doSlc, if_pos lineo, cut_to o hil, hu]
    have tB : doSlc (.str o) (some ((i : Int) + 1)) none = some (.str v) := by
      rw [i1]; simp only [doSlc, if_pos lineo, cut_behind, hv]
    have lu : u.length ≤ 1100 := by rw [hu, List.length_take]; omega
    have lv : v.length ≤ 1100 := by rw [hv, List.length_drop]; omega
    obtain ⟨z3, hz3⟩ : ∃ z, z = u ++ [w] := ⟨_, rfl⟩
    obtain ⟨o', ho'⟩ : ∃ z, z = z3 ++ v := ⟨_, rfl⟩
    have lz3 : z3.length ≤ 1101 := by rw [hz3]; simp; omega
    have d1 : doBin .add (.str u) (.str [w]) = some (.str z3) := by rw [hz3]; exact cat_str (by rw [line_eq]; simp; omega)
    have d2 : doBin .add (.str z3) (.str v) = some (.str o') := by rw [ho']; exact cat_str (by rw [line_eq]; omega)
    have nu : u.count 40 + v.count 40 ≤ o.count 40 := by
      have a : u.count 40 + (o.drop i).count 40 = o.count 40 := by rw [hu, ← List.count_append, List.take_append_drop]
      have b : v.count 40 ≤ (o.drop i).count 40 := by
        rw [hv, ← List.drop_drop]
        exact (List.drop_suffix 1 _).sublist.count_le 40
      omega
    have nw : ([w] : Sg).count 40 ≤ 1 := List.count_le_length
    have lo2 : o'.length ≤ 1500 := by
      have a : u.length + v.length ≤ o.length := by rw [hu, hv, List.length_take, List.length_drop]; omega
      rw [ho', hz3]
      simp only [List.length_append, List.length_cons, List.length_nil]
      omega
    obtain ⟨r, _, b1, b2, b3⟩ := bs o' (by rw [ho', hz3, List.count_append, List.count_append]; omega) (by omega)
    refine ⟨some (.pv (.int (i : Int))), some (.pv (.str [y])), some (.pv (.str o')), st6, front _ ?_, f6⟩
    rw [er]
    generalize R o' r = rr at *
    simp [e4, lo', hol', hol, hne, e5, e6, hw, optL, tA, tB, d1, d2, b1, b2, b3]
  · obtain ⟨r, _, b1, b2, b3⟩ := bs o (by omega) (by omega)
    refine ⟨some (.pv (.int (k : Int))), some (.pv (.str [y])), some (.pv (.str o)), st4, front _ ?_, f4⟩
    rw [er]
    generalize R o r = rr at *
    by_cases h40 : k4 = 0
    · have hoe : o = [] := by
        cases o with
        | nil => rfl
        | cons _ _ => exact absurd ⟨h40, by simp⟩ hk0
      subst h40 hoe
      simp at lo'
      simp [e4, lo', b1, b2, b3]
    · simp [e4, h40, b1, b2, b3]
end Z15
end

section
namespace Z15
open Z
theorem right_of {n : Nat} (hn : 110 ≤ n + 1) (t : Tm) (g : t.good) (hs : t.size ≤ 60) {st : Store} (hf : Fed st) : ∃ st', (Pr.sem (n + 2)).call 14 [.ref 0, .pv t.tree] st = some (.ok (.pv (.bl true)) st') ∧ Fed st' := by
  suffices H : ∃ st', Pr.cal (n + 2) 14 [.ref 0, .pv t.tree] st = some (.ok (.pv (.bl true)) st') ∧ Fed st' by
    obtain ⟨st', e, f⟩ := H
    exact ⟨st', call_fed' hf e f, f⟩
  rw [cal_eq Pr (n + 1) 14 m14 _ _ rfl rfl]
  have hd := t.dep_size
  have hl := t.text_len g
  have hc := t.count40 g
  have hline : t.text.length ≤ line := by rw [line_eq]; omega
  have l0 := len_str hline
  have w := fun st => call1 (P := Pr) (f := 8) (st := st) rfl (write_of t (n + 1) (by omega) g hline)
  have x := fun st => call1 (P := Pr) (f := 0) (st := st) rfl (text_of t (n + 1) (by omega) g hline)
  have s0 := fun st => same_str n t.text st
  obtain ⟨r, hr, b1, b2, b3⟩ := both_same (m := n + 1) t.text hn (by omega) hline
  have rb := read_back g (by omega) hr
  have bd := fun (x : PV) (a3 a5 a6 a7 : Option LV) {a4 : Option LV} {st : Store} (hf : Fed st) => bend (n := n) hn t.text (by omega) (by omega) x (some (.pv t.tree)) a3 a5 a6 a7 (a4 := a4) hf
  generalize Pr.sem (n + 1) = S at w x s0 b1 b2 b3 bd ⊢
  have due : evE S (.idx (.lst false [.tup [.lit (.str [116, 101, 114, 109]), .var 1], .tup [.lit (.str [98, 97, 100]), .bi .len [.var 2]]]) (.bi .int [.cmp .gt (.bi .len [.var 2]) (.lit (.int 120))])) [some (.ref 0), some (.pv t.tree), some (.pv (.str t.text)), none, none, none, none, none] st = some (.ok (.pv (R t.text r)) st) := by
    rw [rb]
    by_cases h : 120 < t.text.length
    · have h' : (120 : Int) < t.text.length := by omega
      simp [l0, h, h', bi1]
    · have h' : ¬ (120 : Int) < t.text.length := by omega
      simp [l0, h, h', bi0]
  generalize R t.text r = E at *
  let I : Nat → Slots → Store → Prop := fun i φ st => Fed st ∧ ∃ a4 a5 a6 a7 : Option LV, φ = [some (.ref 0), some (.pv t.tree), some (.pv (.str t.text)), some (.pv E), a4, a5, a6, a7]
  obtain ⟨φ', st1, e1, f1, a4, a5, a6, a7, hφ⟩ := forLoop_inv I ((upto 0 8).map .int) 0 [some (.ref 0), some (.pv t.tree), some (.pv (.str t.text)), some (.pv E), none, none, none, none] st ⟨hf, _, _, _, _, rfl⟩ (step := forStep S (.nm 4) rightB) fun i x φ st hx hi => by
    obtain ⟨hf, a4, a5, a6, a7, rfl⟩ := hi
    obtain ⟨b5, b6, b7, st', e, f'⟩ := bd x (some (.pv E)) a5 a6 a7 (a4 := a4) hf
    exact ⟨_, st', e, f', _, _, _, _, rfl⟩
  subst hφ
  have fv := forV_upto (n := 8) (by decide) (forStep S (.nm 4) rightB) [some (.ref 0), some (.pv t.tree), some (.pv (.str t.text)), some (.pv E), none, none, none, none] st
  rw [e1] at fv
  refine ⟨st1, ?_, f1⟩
  have eb : m14.body = [.asg (.nm 2) (.call 8 [.var 1]), .asg (.nm 3) (.idx (.lst false [.tup [.lit (.str [116, 101, 114, 109]), .var 1], .tup [.lit (.str [98, 97, 100]), .bi .len [.var 2]]]) (.bi .int [.cmp .gt (.bi .len [.var 2]) (.lit (.int 120))])), .iff (.boolop false [.not (.val (.call 4 [.call 0 [.var 1], .var 2])), .not (.val (.call 4 [.call 12 [.var 2], .var 3])), .not (.val (.call 4 [.call 11 [.var 2], .var 3]))]) [.ret (.lit (.bl false))] [], .for_ (.nm 4) .range [.lit (.int 8)] rightB, .ret (.call 4 [.call 12 [.var 2], .var 3])] := rfl
  rw [eb, show m14.nn - m14.ar = 6 from rfl]
  generalize (ME.idx (.lst false [.tup [.lit (.str [116, 101, 114, 109]), .var 1], .tup [.lit (.str [98, 97, 100]), .bi .len [.var 2]]]) (.bi .int [.cmp .gt (.bi .len [.var 2]) (.lit (.int 120))])) = J at due ⊢
  generalize hst : forStep S (.nm 4) rightB = stp at fv
  generalize rightB = rbd at hst ⊢
  have fv' : forV .range [.pv (.int 8)] stp [some (.ref 0), some (.pv t.tree), some (.pv (.str t.text)), some (.pv E), none, none, none, none] st = _ := fv
  simp [w, due, x, s0, b1, b2, b3, hst, fv']
abbrev turnB : List MS := match m15.body.getD 1 .pass with
  | .for_ _ _ _ b => b
  | _ => []
theorem turn {n : Nat} (hn : 110 ≤ n + 1) {st : Store} (hf : Fed st) (x : PV) (a0 a3 a4 a5 a6 a7 a8 a9 a10 : Option LV) {a2 : Option LV} : ∃ b9 st', forStep (Pr.sem (n + 2)) (.nm 2) turnB x [a0, some (.ref 0), a2, a3, a4, a5, a6, a7, a8, a9, a10] st = some (.nx [a0, some (.ref 0), some (.pv x), a3, a4, a5, a6, a7, a8, b9, a10] st') ∧ Fed st' := by
  obtain ⟨k, st1, e1, hk, f1⟩ := dr_of (n + 1) hf (m := 8) (by decide) (by decide)
  have ro := fun (t : Tm) (g : t.good) (hs : t.size ≤ 60) {st : Store} (hf : Fed st) => right_of hn t g hs hf
  obtain ⟨n', hn'⟩ : ∃ n', n + 2 = n' + 40 := ⟨n - 38, by omega⟩
  have td := fun (most : Nat) (h1 : 1 ≤ most) (h2 : most ≤ 14) {st : Store} (hf : Fed st) => term_drawn (n := n') most h1 h2 hf
  have fo := fun {st : Store} (hf : Fed st) => free_of 6 (n + 2) 6 st (Nat.le_refl _) (by decide) (by omega) (by decide) hf
  rw [← hn'] at td
  rw [show n + 1 + 1 = n + 2 from rfl] at e1
  generalize Pr.sem (n + 2) = S at e1 ro td fo ⊢
  have eb : turnB = [.asg (.nm 9) (.lit (.int 7)), .iff (.cmp .eq (.call 3 [.var 1, .lit (.int 8)]) (.lit (.int 0))) [.asg (.nm 9) (.lit (.int 14))] [], .iff (.boolop false [.not (.val (.call 14 [.var 1, .call 7 [.var 1, .var 9]])), .not (.val (.call 14 [.var 1, .call 13 [.var 1, .lit (.int 6)]]))]) [.ret (.lit (.bl false))] []] := rfl
  rw [eb]
  by_cases hk0 : k = 0
  · subst hk0
    obtain ⟨t, st2, e2, f2, tg⟩ := td 14 (by decide) (by decide) f1
    obtain ⟨st3, e3, f3⟩ := ro t tg.ok tg.size f2
    obtain ⟨u, st4, e4, f4, g4, s4, d4⟩ := fo f3
    obtain ⟨st5, e5, f5⟩ := ro u g4 (by omega) f4
    have e2' : S.call 7 [.ref 0, .pv (.int 14)] st1 = _ := e2
    have e4' : S.call 13 [.ref 0, .pv (.int 6)] st3 = _ := e4
    exact ⟨some (.pv (.int 14)), st5, by simp [forStep, e1, e2', e3, e4', e5], f5⟩
  · obtain ⟨t, st2, e2, f2, tg⟩ := td 7 (by decide) (by decide) f1
    obtain ⟨st3, e3, f3⟩ := ro t tg.ok tg.size f2
    obtain ⟨u, st4, e4, f4, g4, s4, d4⟩ := fo f3
    obtain ⟨st5, e5, f5⟩ := ro u g4 (by omega) f4
    have e2' : S.call 7 [.ref 0, .pv (.int 7)] st1 = _ := e2
    have e4' : S.call 13 [.ref 0, .pv (.int 6)] st3 = _ := e4
    exact ⟨some (.pv (.int 7)), st5, by simp [forStep, e1, hk0, e2', e3, e4', e5], f5⟩
end Z15
end

section
namespace Z15
open Z
abbrev RW := PySem.Challenge.rw_oncelinks_k15_whole_texts_of_terms
abbrev Rw : PySem.W.OpenRow := PySem.W.OpenLaw.row RW
abbrev hk : PySem.W.Hook := hookZ 6 txt.fa txt.fn txt.ck
def ob (s : PySem.W.SharedT) : He.AlD := obsZG 6 txt.fa txt.fn txt.ck (HandSHeadRun.getT s)
theorem ob_eq (s : PySem.W.SharedT) : ob s = hk.obs s.abs := obsZG_eq (HandSHeadRun.getT_eq s)
def loose : List PySem.Str := ["OnceError", "BadText", "BadTerm", "BadLine", "LETTERS", "MOST_LETTERS", "VAR", "FUN", "USE", "MOST_SIGNS", "text_of_term", "Reader", "term_of_text", "_law_feed", "_law_draw", "_law_same", "_law_open", "_law_many_vars", "_law_term", "_law_write", "_law_name_end", "_law_read", "_law_term_of", "_law_told", "_law_free", "_law_right"]
theorem run (w : PySem.World) : HandSHeadRun.RunEq Rw (PySem.W.view Rw.prog [29]) hk ob 4000 loose w := by
  intro os
  kernel_rfl
end Z15
end

section
namespace Z15
open Z
abbrev D : Nat := 200
def rest1 : List MS := m15.body.drop 5
set_option maxHeartbeats 0 in
theorem closing {a0 a2 a4 a5 a6 a7 a8 a9 a10 a11 : Option LV} {st : Store} : exSs (Pr.sem 199) rest1 [a0, some (.ref 0), a2, a4, a5, a6, a7, a8, a9, a10, a11] st = some (.rt (.pv (.bl true)) st) := by kernel_rfl
end Z15
end

section
namespace Z15
open Z
theorem exSs_app (S : Sem) : ∀ (a b : List MS) (φ : Slots) (st : Store) (φ1 : Slots) (st1 : Store), exSs S a φ st = some (.nx φ1 st1) → exSs S (a ++ b) φ st = exSs S b φ1 st1
  | [], b, φ, st, φ1, st1, h => by
    simp only [exSs, Option.some.injEq, FR.nx.injEq] at h
    rw [h.1, h.2]; rfl
  | s :: a, b, φ, st, φ1, st1, h => by
    simp only [List.cons_append, exSs] at h ⊢
    split at h
    · exact exSs_app S a b _ _ _ _ h
    · rename_i hn
      cases q : exS S s φ st with
      | none => rw [q] at h; cases h
      | some r =>
        cases r with
        | nx φ2 st2 => exact absurd q (hn φ2 st2)
        | _ => rw [q] at h; cases h
theorem fed0 (ns : List Int) (n : Nat) : (Pr.sem (n + 1)).call 2 [.pv (.scr ns)] [] = some (.ok (.ref 0) [feedC ns 0 0 1]) := by kernel_rfl
theorem Fed0 (ns : List Int) : Fed [feedC ns 0 0 1] := ⟨⟨ns, 0, 0, 1, ⟨by decide, by decide, by decide, by decide⟩⟩, rfl⟩
/-- a long text -/
def textK (k : Nat) : Sg := (List.replicate 16 [40, 97, 98, 99, 100, 46]).flatten ++ List.replicate (1 + k % 4) 120 ++ List.replicate 16 41
def owns (k : Nat) : List Sg := [textK k, [40, 120, 32] ++ (textK k).dropLast ++ [41, 41], [40] ++ textK k ++ [32, 121, 41], textK k ++ [41]]
abbrev asg4 : MS := .asg (.nm 4) (.bin .add (.bin .add (.bin .mul (.lit (.str [40, 97, 98, 99, 100, 46])) (.bin .fdiv (.var 3) (.lit (.int 7)))) (.bin .mul (.lit (.str [120])) (.bin .add (.lit (.int 1)) (.bin .mod (.bi .int [.var 3]) (.lit (.int 4)))))) (.bin .mul (.lit (.str [41])) (.bin .fdiv (.var 3) (.lit (.int 7)))))
abbrev srcL : ME := .lst false [.var 4, .bin .add (.bin .add (.lit (.str [40, 120, 32])) (.slc (.var 4) false (.lit .non) true (.neg (.lit (.int 1))))) (.lit (.str [41, 41])), .bin .add (.bin .add (.lit (.str [40])) (.var 4)) (.lit (.str [32, 121, 41])), .bin .add (.var 4) (.lit (.str [41]))]
abbrev ownB : List MS := [.iff (.not (.val (.call 4 [.call 12 [.var 5], .call 11 [.var 5]]))) [.ret (.lit (.bl false))] []]
section
variable {S : Sem} {a0 a1 a2 a3 a4 a5 a6 a7 a8 a9 a10 : Option LV} {st : Store}
theorem made4 (k : Nat) (h : k < 5) : exS S asg4 [a0, a1, a2, some (.pv (.int ((112 + k : Nat) : Int))), a4, a5, a6, a7, a8, a9, a10] st = some (.nx [a0, a1, a2, some (.pv (.int ((112 + k : Nat) : Int))), some (.pv (.str (textK k))), a5, a6, a7, a8, a9, a10] st) := by
  have : k = 0 ∨ k = 1 ∨ k = 2 ∨ k = 3 ∨ k = 4 := by omega
  rcases this with z | z | z | z | z <;> subst z <;> kernel_rfl
theorem madeL (k : Nat) (h : k < 5) : evEs S [srcL] [a0, a1, a2, a3, some (.pv (.str (textK k))), a5, a6, a7, a8, a9, a10] st = some (.ok [.pv (.lst ((owns k).map .str))] st) := by
  have : k = 0 ∨ k = 1 ∨ k = 2 ∨ k = 3 ∨ k = 4 := by omega
  rcases this with z | z | z | z | z <;> subst z <;> kernel_rfl
theorem owns_ok (k : Nat) (h : k < 5) : ∀ t ∈ owns k, t.count 40 < 100 ∧ t.length ≤ 2000 := by
  have : ∀ k < 5, ∀ t ∈ owns k, t.count 40 < 100 ∧ t.length ≤ 2000 := by decide +kernel
  exact this k h
theorem own_loop (k : Nat) (h : k < 5) (bs : ∀ t : Sg, t.count 40 < 100 → t.length ≤ 2000 → ∃ p, S.call 12 [.pv (.str t)] st = some (.ok (.pv p) st) ∧ S.call 11 [.pv (.str t)] st = some (.ok (.pv p) st) ∧ S.call 4 [.pv p, .pv p] st = some (.ok (.pv (.bl true)) st)) : ∃ b5, exS S (.for_ (.nm 5) .val [srcL] ownB) [a0, a1, a2, a3, some (.pv (.str (textK k))), a5, a6, a7, a8, a9, a10] st = some (.nx [a0, a1, a2, a3, some (.pv (.str (textK k))), b5, a6, a7, a8, a9, a10] st) := by
  let I : Nat → Slots → Store → Prop := fun i φ st' => st' = st ∧ ∃ b5, φ = [a0, a1, a2, a3, some (.pv (.str (textK k))), b5, a6, a7, a8, a9, a10]
  obtain ⟨φ', st3, e3, f3, b5, hφ⟩ := forLoop_inv I ((owns k).map .str) 0 [a0, a1, a2, a3, some (.pv (.str (textK k))), a5, a6, a7, a8, a9, a10] st ⟨rfl, a5, rfl⟩ (step := forStep S (.nm 5) ownB) fun i x φ st' hx hi => by
    obtain ⟨hf, b5, hφ⟩ := hi
    subst hf hφ
    rw [List.getElem?_map] at hx
    obtain ⟨s, hs, rfl⟩ := Option.map_eq_some_iff.mp hx
    obtain ⟨h1, h2⟩ := owns_ok k h s (List.mem_of_getElem? hs)
    obtain ⟨p, b1, b2, b3⟩ := bs s h1 h2
    refine ⟨[a0, a1, a2, a3, some (.pv (.str (textK k))), some (.pv (.str s)), a6, a7, a8, a9, a10], _, ?_, rfl, _, rfl⟩
    simp [forStep, b1, b2, b3]
  subst f3 hφ
  refine ⟨b5, ?_⟩
  rw [exS_for, madeL k h, Rs.bf_ok, forV_lst]
  exact e3
end
end Z15
end

section
namespace Z15
open Z
theorem law (ns : List Int) (h : ns.length ≤ 63) : ∃ st, Pr.cal D 15 [.pv (.scr ns)] [] = some (.ok (.pv (.bl true)) st) := by
  have f0 := fed0 ns 198
  let I : Nat → Slots → Store → Prop := fun i φ st => Fed st ∧ ∃ a2 a9 : Option LV, φ = [some (.pv (.scr ns)), some (.ref 0), a2, none, none, none, none, none, none, a9, none]
  obtain ⟨φ', st1, e1, f1, a2, a9, hφ⟩ := forLoop_inv I ((upto 0 4).map .int) 0 [some (.pv (.scr ns)), some (.ref 0), none, none, none, none, none, none, none, none, none] _ ⟨Fed0 ns, _, _, rfl⟩ (step := forStep (Pr.sem 199) (.nm 2) turnB) fun i x φ st hx hi => by
    obtain ⟨hf, a2, a9, rfl⟩ := hi
    obtain ⟨b9, st', e, f'⟩ := turn (n := 197) (by decide) hf x (some (.pv (.scr ns))) none none none none none none a9 none (a2 := a2)
    exact ⟨_, st', e, f', _, _, rfl⟩
  subst hφ
  have fv := forV_upto (n := 4) (by decide) (forStep (Pr.sem 199) (.nm 2) turnB) [some (.pv (.scr ns)), some (.ref 0), none, none, none, none, none, none, none, none, none] [feedC ns 0 0 1]
  rw [e1] at fv
  obtain ⟨k, st2, e2, hk, f2⟩ := fed_draw (n := 198) hdraw f1 (m := 5) (by decide) (by decide)
  have hk5 : k < 5 := by omega
  have kk : (112 : Int) + (k : Int) = ((112 + k : Nat) : Int) := by push_cast; rfl
  have m4 := made4 (S := Pr.sem 199) (a0 := some (.pv (.scr ns))) (a1 := some (.ref 0)) (a2 := a2) (a4 := none) (a5 := none) (a6 := none) (a7 := none) (a8 := none) (a9 := a9) (a10 := none) (st := st2) k hk5
  obtain ⟨b5, ol⟩ := own_loop (S := Pr.sem 199) (a0 := some (.pv (.scr ns))) (a1 := some (.ref 0)) (a2 := a2) (a3 := some (.pv (.int ((112 + k : Nat) : Int)))) (a5 := none) (a6 := none) (a7 := none) (a8 := none) (a9 := a9) (a10 := none) (st := st2) k hk5 fun t h1 h2 => by
    obtain ⟨r, _, b1, b2, b3⟩ := both_same (m := 199) t (by decide) h1 (by rw [line_eq]; omega)
    exact ⟨_, b1 st2, b2 st2, b3 st2⟩
  have ec := closing (a0 := some (.pv (.scr ns))) (a2 := a2) (a4 := some (.pv (.int ((112 + k : Nat) : Int)))) (a5 := some (.pv (.str (textK k)))) (a6 := b5) (a7 := none) (a8 := none) (a9 := none) (a10 := a9) (a11 := none) (st := st2)
  refine ⟨st2, ?_⟩
  rw [show D = 199 + 1 from rfl, cal_eq Pr 199 15 m15 _ _ rfl rfl]
  have body : m15.body = .asg (.nm 1) (.call 2 [.var 0]) :: .for_ (.nm 2) .range [.lit (.int 4)] turnB :: .asg (.nm 3) (.bin .add (.lit (.int 112)) (.call 3 [.var 1, .lit (.int 5)])) :: asg4 :: .for_ (.nm 5) .val [srcL] ownB :: rest1 := rfl
  rw [body, show m15.nn - m15.ar = 10 from rfl]
  generalize rest1 = rest at ec ⊢
  rw [← kk] at m4 ol ec
  generalize hst : forStep (Pr.sem 199) (.nm 2) turnB = stp at fv
  generalize turnB = tb at hst ⊢
  generalize asg4 = s4 at m4 ⊢
  generalize MS.for_ (.nm 5) .val [srcL] ownB = s5 at ol ⊢
  generalize Pr.sem 199 = S at f0 hst e2 m4 ol ec ⊢
  have fv' : forV .range [.pv (.int 4)] stp [some (.pv (.scr ns)), some (.ref 0), none, none, none, none, none, none, none, none, none] [feedC ns 0 0 1] = _ := fv
  simp [f0, hst, fv', e2, m4, ol, ec]
end Z15
open PySem PySem.W PySem.Calls PyProof.Rows
set_option maxHeartbeats 0 in
theorem PySem.Challenge.cw_oncelinks_k15_whole_texts_of_terms_holds : PySem.Challenge.rw_oncelinks_k15_whole_texts_of_terms.Holds := by
  w_on; o_law
  refine HandSHeadRun.head_any (r := OpenLaw.row PySem.Challenge.rw_oncelinks_k15_whole_texts_of_terms) (q := view (OpenLaw.row PySem.Challenge.rw_oncelinks_k15_whole_texts_of_terms).prog [29]) (H := Z15.hk) (ob := Z15.ob) (M := 4000) (loose := Z15.loose) (d := HandSHeadRun.topDef (OpenLaw.row PySem.Challenge.rw_oncelinks_k15_whole_texts_of_terms).prog 29) (kwd := []) Z15.ob_eq
    (by kernel_rfl) (fun s => by kernel_rfl) Z15.run (by kernel_rfl) (by kernel_rfl) (by kernel_rfl) (by rfl) (by first | assumption | decide +kernel) (by decide +kernel) ⟨rfl, rfl, rfl, rfl, rfl, by decide +kernel⟩ ?hw ?hc
  case hw => w_witness2
  case hc => exact Z.walkZ (n := 63) Z15.txt Z15.shr 1000 Z15.D 6 15 Z15.q15 "script" rfl (by decide) (by kernel_rfl) Z15.ok rfl rfl rfl rfl ⟨rfl, by decide, by decide⟩ Z15.law
end
