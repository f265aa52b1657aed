import PyProof.Rows.All
import Wide.All
import OpenK.AllK
import Wide.FinOn
import PySem.Challenge.RW_oncelinks_k83_whole_counts_of_terms
import HandS.ForMost
import HandS.ForExc
import HandS.IsInst
import HandS.CallSlots
import HandS.Flow
import HandS.Style
import HandS.Dict
import HandS.Head0
import HandS.Head1
import HandS.Head2
import HandS.HeadEnd
import HandS.HeadHook1
import HandS.HeadHook2
import HandS.Ends
set_option Elab.async false
set_option linter.all false
set_option maxRecDepth 100000
section
/-! ZA: value trees, the small AST, its executable semantics. -/
namespace Z
abbrev Sg := List Nat
abbrev Ky := Sum Int Sg

/-- value trees: nothing in them changes any more -/
inductive PV where
  | non | bl (b : Bool) | int (i : Int) | str (s : Sg)
  | tup (xs : List PV) | lst (xs : List PV)
  | dk (kvs : List (Ky × PV)) | dt (kvs : List (List Ky × PV))
  | scr (ns : List Int)
  deriving Inhabited
/-- what a name may hold: a tree, a cell of the store, a tuple with cells in it -/
inductive LV where
  | pv (p : PV) | ref (n : Nat) | tup (xs : List LV)
  deriving Inhabited
inductive Cell where
  | lst (live : Bool) (xs : List LV)
  | dk (live : Bool) (kvs : List (Ky × LV))
  | dt (live : Bool) (kvs : List (List Ky × LV))
  | ins (C : Nat) (fs : List (Nat × LV))
  deriving Inhabited
abbrev Store := List Cell
abbrev Slots := List (Option LV)
structure Ex where
  cls : Nat
  fs : List (Nat × PV)

/-! ### trees -/
mutual
def eqP : PV → PV → Bool
  | .non, .non => true
  | .bl a, .bl b => a == b
  | .bl a, .int j => (if a then 1 else 0) == j
  | .int i, .bl b => i == (if b then 1 else 0)
  | .int i, .int j => i == j
  | .str x, .str y => x == y
  | .lst xs, .lst ys => eqPs xs ys
  | .tup xs, .tup ys => eqPs xs ys
  | _, _ => false
def eqPs : List PV → List PV → Bool
  | [], [] => true
  | x :: xs, y :: ys => eqP x y && eqPs xs ys
  | _, _ => false
end
mutual
/-- fit for ==: no dict in it -/
def eqOk : PV → Bool
  | .non | .bl _ | .int _ | .str _ => true
  | .tup xs | .lst xs => eqOks xs
  | _ => false
def eqOks : List PV → Bool
  | [] => true
  | x :: xs => eqOk x && eqOks xs
end
mutual
def dep : PV → Nat
  | .tup xs | .lst xs => 1 + deps xs
  | _ => 0
def deps : List PV → Nat
  | [] => 0
  | x :: xs => max (dep x) (deps xs)
end
def maxDep : Nat := 2000
def opEq (a b : PV) : Option Bool := if eqOk a && eqOk b && decide (min (dep a) (dep b) ≤ maxDep) then some (eqP a b) else none

def flat : PV → Bool
  | .non | .bl _ | .int _ | .str _ => true
  | _ => false
def line : Nat := 16777216

def unpv : List LV → Option (List PV)
  | [] => some []
  | .pv p :: xs => (unpv xs).map (p :: ·)
  | _ :: _ => none
def unpvK {κ : Type} : List (κ × LV) → Option (List (κ × PV))
  | [] => some []
  | (k, .pv p) :: xs => (unpvK xs).map ((k, p) :: ·)
  | _ :: _ => none
theorem unpv_map (xs : List PV) : unpv (xs.map .pv) = some xs := by
  induction xs with
  | nil => rfl
  | cons x xs ih => simp [unpv, ih]
theorem unpv_eq : ∀ {ls : List LV} {xs : List PV}, unpv ls = some xs → ls = xs.map .pv
  | [], xs, h => by simp [unpv] at h; subst h; rfl
  | .pv p :: ls, xs, h => by
    simp only [unpv, Option.map_eq_some_iff] at h
    obtain ⟨ys, h1, h2⟩ := h
    subst h2
    rw [unpv_eq h1]; rfl
  | .ref _ :: _, _, h => by simp [unpv] at h
  | .tup _ :: _, _, h => by simp [unpv] at h
theorem unpvK_map {κ : Type} (xs : List (κ × PV)) : unpvK (xs.map fun kv => (kv.1, LV.pv kv.2)) = some xs := by
  induction xs with
  | nil => rfl
  | cons x xs ih => simp [unpvK, ih]
theorem unpvK_eq {κ : Type} : ∀ {ls : List (κ × LV)} {xs : List (κ × PV)}, unpvK ls = some xs → ls = xs.map fun kv => (kv.1, LV.pv kv.2)
  | [], xs, h => by simp [unpvK] at h; subst h; rfl
  | (k, .pv p) :: ls, xs, h => by
    simp only [unpvK, Option.map_eq_some_iff] at h
    obtain ⟨ys, h1, h2⟩ := h
    subst h2
    rw [unpvK_eq h1]; rfl
  | (_, .ref _) :: _, _, h => by simp [unpvK] at h
  | (_, .tup _) :: _, _, h => by simp [unpvK] at h

/-- a tree where there is one: what a name holds, as it stands now -/
def peek (st : Store) : LV → Option PV
  | .pv p => some p
  | .ref n => match st[n]? with
    | some (.lst _ xs) => (unpv xs).map .lst
    | some (.dk _ kvs) => (unpvK kvs).map .dk
    | some (.dt _ kvs) => (unpvK kvs).map .dt
    | _ => none
  | .tup _ => none
def peeks (st : Store) : List LV → Option (List PV)
  | [] => some []
  | v :: vs => match peek st v with
    | some p => (peeks st vs).map (p :: ·)
    | none => none
def mkTup (vs : List LV) : LV := match unpv vs with
  | some ps => .pv (.tup ps)
  | none => .tup vs

/-! ### operations on trees -/
inductive BO where
  | add | sub | mul | fdiv | mod | pow
  deriving DecidableEq
inductive CO where
  | eq | ne | lt | le | gt | ge | in_ | nin
  deriving DecidableEq
inductive Ty where
  | int | bool | str | list | tuple
  deriving DecidableEq
inductive BI where
  | len | abs | int | list | sum | all | any
  deriving DecidableEq
/-- methods of built-in types -/
inductive BM where
  | append | get2
  deriving DecidableEq
inductive IK where
  | val | range
  deriving DecidableEq

def mulOk (i j : Int) : Bool := (decide (-(2 ^ 64) < i) && decide (i < 2 ^ 64)) || (decide (-(2 ^ 64) < j) && decide (j < 2 ^ 64))
def powOk (i j : Int) : Bool := decide (0 ≤ j) && decide (j ≤ 1000000) && decide (i.natAbs < 2 ^ 64)
def divOk (j : Int) : Bool := decide (0 < j) && decide (j < 1073741824)
def doBin : BO → PV → PV → Option PV
  | .add, .int i, .int j => some (.int (i + j))
  | .add, .str x, .str y => if x.length + y.length ≤ line then some (.str (x ++ y)) else none
  | .add, .lst xs, .lst ys => if xs.length + ys.length ≤ line then some (.lst (xs ++ ys)) else none
  | .sub, .int i, .int j => some (.int (i - j))
  | .mul, .int i, .int j => if mulOk i j then some (.int (i * j)) else none
  | .fdiv, .int i, .int j => if divOk j then some (.int (i / j)) else none
  | .mod, .int i, .int j => if 0 < j then some (.int (i % j)) else none
  | .pow, .int i, .int j => if powOk i j then some (.int (i ^ j.toNat)) else none
  | _, _, _ => none
def inFlat (x : PV) (xs : List PV) : Option Bool := if flat x && xs.all flat then some (xs.any fun y => eqP y x) else none
def keyK : PV → Option Ky
  | .int i => some (.inl i)
  | .str s => some (.inr s)
  | _ => none
def keyKs : List PV → Option (List Ky)
  | [] => some []
  | x :: xs => match keyK x with
    | some k => (keyKs xs).map (k :: ·)
    | none => none
def keyT : PV → Option (List Ky)
  | .tup xs => keyKs xs
  | _ => none
def look {κ α : Type} [DecidableEq κ] (k : κ) : List (κ × α) → Option α
  | [] => none
  | (j, v) :: r => if j = k then some v else look k r
def has {κ α : Type} [DecidableEq κ] (k : κ) (kvs : List (κ × α)) : Bool := (look k kvs).isSome
def putD {κ α : Type} [DecidableEq κ] (k : κ) (v : α) (kvs : List (κ × α)) : List (κ × α) :=
  if has k kvs then kvs.map fun kv => if kv.1 = k then (kv.1, v) else kv else kvs ++ [(k, v)]
def doCmp : CO → PV → PV → Option Bool
  | .eq, a, b => opEq a b
  | .ne, a, b => (opEq a b).map (!·)
  | .lt, .int i, .int j => some (decide (i < j))
  | .le, .int i, .int j => some (decide (i ≤ j))
  | .gt, .int i, .int j => some (decide (j < i))
  | .ge, .int i, .int j => some (decide (j ≤ i))
  | .in_, x, .lst xs => inFlat x xs
  | .in_, x, .tup xs => inFlat x xs
  | .nin, x, .lst xs => (inFlat x xs).map (!·)
  | .nin, x, .tup xs => (inFlat x xs).map (!·)
  | .in_, k, .dk kvs => (keyK k).map fun k => has k kvs
  | .nin, k, .dk kvs => (keyK k).map fun k => !has k kvs
  | .in_, k, .dt kvs => (keyT k).map fun k => has k kvs
  | .nin, k, .dt kvs => (keyT k).map fun k => !has k kvs
  | _, _, _ => none
def ixN (n : Nat) (i : Int) : Option Nat := if 0 ≤ i then (if i < n then some i.toNat else none) else if -(n : Int) ≤ i then some (i + n).toNat else none
def atI {α : Type} (xs : List α) (i : Int) : Option α := match ixN xs.length i with
  | some j => xs[j]?
  | none => none
def doIdx : PV → PV → Option PV
  | .lst xs, .int i => atI xs i
  | .tup xs, .int i => atI xs i
  | .str s, .int i => if s.length ≤ line then (atI s i).map fun c => .str [c] else none
  | .dk kvs, k => match keyK k with
    | some k => look k kvs
    | none => none
  | .dt kvs, k => match keyT k with
    | some k => look k kvs
    | none => none
  | _, _ => none
def sIx (n d : Nat) : Option Int → Nat
  | none => d
  | some v => if v < 0 then (v + (n : Int)).toNat else min v.toNat n
def cut {α : Type} (xs : List α) (lo hi : Option Int) : List α := (xs.drop (sIx xs.length 0 lo)).take (sIx xs.length xs.length hi - sIx xs.length 0 lo)
def doSlc (a : PV) (lo hi : Option Int) : Option PV := match a with
  | .lst xs => some (.lst (cut xs lo hi))
  | _ => none
/-- truth of a tree -/
def tru : PV → Option Bool
  | .non => some false
  | .bl b => some b
  | .int i => some (i != 0)
  | .str s => if s.length ≤ line then some (!s.isEmpty) else none
  | .lst xs => some (!xs.isEmpty)
  | .tup xs => some (!xs.isEmpty)
  | _ => none
def isTy : Ty → PV → Option Bool
  | t, .non => some false
  | t, .bl _ => some (t == .bool || t == .int)
  | t, .int _ => some (t == .int)
  | t, .str _ => some (t == .str)
  | t, .lst _ => some (t == .list)
  | t, .tup _ => some (t == .tuple)
  | _, _ => none
def intsOf : List PV → Option (List Int)
  | [] => some []
  | .int i :: xs => (intsOf xs).map (i :: ·)
  | _ :: _ => none
def boolsOf : List PV → Option (List Bool)
  | [] => some []
  | .bl b :: xs => (boolsOf xs).map (b :: ·)
  | _ :: _ => none
def doBI : BI → List PV → Option PV
  | .len, [.lst xs] => some (.int xs.length)
  | .len, [.tup xs] => some (.int xs.length)
  | .len, [.str s] => if s.length ≤ line then some (.int s.length) else none
  | .abs, [.int i] => some (.int (if i < 0 then -i else i))
  | .int, [.int i] => some (.int i)
  | .int, [.bl b] => some (.int (if b then 1 else 0))
  | .list, [.lst xs] => some (.lst xs)
  | .list, [.tup xs] => some (.lst xs)
  | .list, [.scr ns] => some (.lst (ns.map .int))
  | .sum, [.lst xs] => (intsOf xs).map fun ns => .int ns.sum
  | .all, [.lst xs] => (boolsOf xs).map fun bs => .bl (bs.all id)
  | .any, [.lst xs] => (boolsOf xs).map fun bs => .bl (bs.any id)
  | _, _ => none
def rangeOk (i : Int) : Bool := decide (-(2 ^ 62) ≤ i) && decide (i < 2 ^ 62)
def upto (lo : Int) : Nat → List Int
  | 0 => []
  | n + 1 => lo :: upto (lo + 1) n
def downto (lo : Int) : Nat → List Int
  | 0 => []
  | n + 1 => lo :: downto (lo - 1) n
/-- what is walked -/
def items : IK → List PV → Option (List PV)
  | .val, [.lst xs] => some xs
  | .val, [.tup xs] => some xs
  | .range, [.int j] => if rangeOk j then some ((upto 0 j.toNat).map .int) else none
  | .range, [.int i, .int j] => if rangeOk i && rangeOk j then some ((upto i (j - i).toNat).map .int) else none
  | .range, [.int i, .int j, .int k] => if rangeOk i && rangeOk j && decide (k = -1) then some ((downto i (i - j).toNat).map .int) else none
  | _, _ => none
end Z
end

section
namespace Z
/-- targets -/
inductive MG where
  | nm (i : Nat)
  | tp (gs : List MG)
  deriving Inhabited
mutual
inductive ME where
  | var (i : Nat)
  | lit (p : PV)
  | glb (g : Nat)
  | tup (es : List ME)
  | lst (live : Bool) (es : List ME)
  | dnew (t : Bool)
  | bin (op : BO) (a b : ME)
  | cmp (op : CO) (a b : ME)
  | boolop (isAnd : Bool) (es : List ME)
  | not (a : ME)
  | neg (a : ME)
  | ite (c : MT) (a b : ME)
  | idx (a i : ME)
  | slc (a : ME) (l : Bool) (lo : ME) (h : Bool) (hi : ME)
  | isn (neg : Bool) (a : ME)
  | isi (t : Ty) (a : ME)
  | bi (b : BI) (es : List ME)
  | bm (m : BM) (r : ME) (es : List ME)
  | call (f : Nat) (es : List ME)
  | lc (live : Bool) (elt : ME) (tg : MG) (ik : IK) (src : List ME) (ifs : List MT) (own : List Nat)
  | frz (a : ME)
inductive MT where
  | val (e : ME)
  | cmp (op : CO) (a b : ME)
  | isn (neg : Bool) (a : ME)
  | boolop (isAnd : Bool) (ts : List MT)
  | not (t : MT)
end
instance : Inhabited ME := ⟨.lit .non⟩
instance : Inhabited MT := ⟨.val default⟩
inductive MS where
  | ex (e : ME)
  | asg (g : MG) (e : ME)
  | asgI (a i e : ME)
  | aug (i : Nat) (op : BO) (e : ME)
  | augI (a i : ME) (op : BO) (e : ME)
  | iff (c : MT) (a b : List MS)
  | whl (c : MT) (a : List MS)
  | for_ (g : MG) (ik : IK) (src : List ME) (a : List MS)
  | ret (e : ME)
  | retN
  | brk
  | cnt
  | pass
  deriving Inhabited

/-! ### results -/
inductive ER where
  | ok (v : LV) (st : Store)
  | ex (e : Ex) (st : Store)
inductive ERs where
  | ok (vs : List LV) (st : Store)
  | ex (e : Ex) (st : Store)
inductive ET where
  | ok (b : Bool) (st : Store)
  | ex (e : Ex) (st : Store)
inductive FR where
  | nx (φ : Slots) (st : Store)
  | rt (v : LV) (st : Store)
  | bk (φ : Slots) (st : Store)
  | ct (φ : Slots) (st : Store)
  | ex (e : Ex) (φ : Slots) (st : Store)
abbrev R := Option ER
def R.bind (x : Option ER) (f : LV → Store → Option ER) : Option ER := match x with
  | some (.ok v st) => f v st
  | some (.ex e st) => some (.ex e st)
  | none => none
def R.bs (x : Option ER) (f : LV → Store → Option ERs) : Option ERs := match x with
  | some (.ok v st) => f v st
  | some (.ex e st) => some (.ex e st)
  | none => none
def R.bt (x : Option ER) (f : LV → Store → Option ET) : Option ET := match x with
  | some (.ok v st) => f v st
  | some (.ex e st) => some (.ex e st)
  | none => none
def R.bf (φ : Slots) (x : Option ER) (f : LV → Store → Option FR) : Option FR := match x with
  | some (.ok v st) => f v st
  | some (.ex e st) => some (.ex e φ st)
  | none => none
def Rs.bind (x : Option ERs) (f : List LV → Store → Option ER) : Option ER := match x with
  | some (.ok v st) => f v st
  | some (.ex e st) => some (.ex e st)
  | none => none
def Rs.bs (x : Option ERs) (f : List LV → Store → Option ERs) : Option ERs := match x with
  | some (.ok v st) => f v st
  | some (.ex e st) => some (.ex e st)
  | none => none
def Rs.bf (φ : Slots) (x : Option ERs) (f : List LV → Store → Option FR) : Option FR := match x with
  | some (.ok v st) => f v st
  | some (.ex e st) => some (.ex e φ st)
  | none => none
def T.bind (x : Option ET) (f : Bool → Store → Option ER) : Option ER := match x with
  | some (.ok v st) => f v st
  | some (.ex e st) => some (.ex e st)
  | none => none
def T.bt (x : Option ET) (f : Bool → Store → Option ET) : Option ET := match x with
  | some (.ok v st) => f v st
  | some (.ex e st) => some (.ex e st)
  | none => none
def T.bf (φ : Slots) (x : Option ET) (f : Bool → Store → Option FR) : Option FR := match x with
  | some (.ok v st) => f v st
  | some (.ex e st) => some (.ex e φ st)
  | none => none
def optL (there : Bool) (x : LV) : Option (Option Int) := if there then (match x with
  | .pv (.int i) => some (some i)
  | _ => none) else some none
def okP (st : Store) (p : Option PV) : Option ER := match p with
  | some p => some (.ok (.pv p) st)
  | none => none

/-- from now on nothing may change it -/
def frz (v : LV) (st : Store) : Option (PV × Store) := match v with
  | .pv p => some (p, st)
  | .ref n => match st[n]? with
    | some (.lst _ xs) => match unpv xs with
      | some ps => some (.lst ps, st.set n (.lst false xs))
      | none => none
    | some (.dk _ kvs) => match unpvK kvs with
      | some ps => some (.dk ps, st.set n (.dk false kvs))
      | none => none
    | some (.dt _ kvs) => match unpvK kvs with
      | some ps => some (.dt ps, st.set n (.dt false kvs))
      | none => none
    | _ => none
  | .tup _ => none

/-! ### the store behind a call -/
mutual
def below (n : Nat) : LV → Bool
  | .pv _ => true
  | .ref m => decide (m < n)
  | .tup xs => belows n xs
def belows (n : Nat) : List LV → Bool
  | [] => true
  | x :: xs => below n x && belows n xs
end
def Cell.below (n : Nat) : Cell → Bool
  | .lst _ xs => belows n xs
  | .dk _ kvs => belows n (kvs.map (·.2))
  | .dt _ kvs => belows n (kvs.map (·.2))
  | .ins _ fs => belows n (fs.map (·.2))
/-- cells that nothing leads to any more go -/
def trunc (n : Nat) (ok : Bool) (st : Store) : Store := if ok && (st.take n).all (·.below n) then st.take n else st

/-! ### what the semantics leans on -/
structure Sem where
  cal : Nat → List LV → Store → Option ER
  glb : Nat → Option PV
  shr : Nat → Bool
  wf : Nat
def Sem.call (S : Sem) (f : Nat) (vs : List LV) (st : Store) : Option ER :=
  match S.shr f, unpv vs with
  | false, some _ => match S.cal f vs [] with
    | some (.ok v st1) => (frz v st1).map fun p => .ok (.pv p.1) st
    | some (.ex e _) => some (.ex e st)
    | none => none
  | _, _ => match S.cal f vs st with
    | some (.ok v st1) => some (.ok v (trunc st.length (below st.length v) st1))
    | some (.ex e st1) => some (.ex e (trunc st.length true st1))
    | none => none

mutual
def asgG : MG → LV → Slots → Option Slots
  | .nm i, v, φ => some (φ.set i (some v))
  | .tp gs, v, φ => match v with
    | .pv (.tup xs) => asgGs gs (xs.map .pv) φ
    | .pv (.lst xs) => asgGs gs (xs.map .pv) φ
    | .tup xs => asgGs gs xs φ
    | _ => none
def asgGs : List MG → List LV → Slots → Option Slots
  | [], [], φ => some φ
  | g :: gs, v :: vs, φ => match asgG g v φ with
    | some φ => asgGs gs vs φ
    | none => none
  | _, _, _ => none
end
def wipeL (φ : Slots) : List Nat → Slots
  | [] => φ
  | v :: vs => (wipeL φ vs).set v none
def noX : Option ERs → Option (List LV × Store)
  | some (.ok vs st) => some (vs, st)
  | _ => none
def lcLoop (step : PV → Store → Option ERs) : List PV → Store → Option (List LV × Store)
  | [], st => some ([], st)
  | x :: xs, st => match noX (step x st) with
    | some (ys, st) => match lcLoop step xs st with
      | some (zs, st) => some (ys ++ zs, st)
      | none => none
    | none => none
def mkLst (live : Bool) (vs : List LV) (st : Store) : Option ER :=
  if vs.length ≤ line then
    if live then some (.ok (.ref st.length) (st ++ [.lst true vs])) else match unpv vs with
      | some ps => some (.ok (.pv (.lst ps)) st)
      | none => none
  else none
/-- what a method of a built-in type may be called on -/
def bmOk (m : BM) (x : LV) (st : Store) : Bool := match m, x with
  | .append, .ref n => (match st[n]? with
    | some (.lst ..) => true
    | _ => false)
  | .get2, .pv (.dk _) => true
  | .get2, .pv (.dt _) => true
  | .get2, .ref n => (match st[n]? with
    | some (.dk ..) => true
    | some (.dt ..) => true
    | _ => false)
  | _, _ => false
/-- v.m(..) of built-in types -/
def doBM (m : BM) (v : LV) (vs : List LV) (st : Store) : Option ER := match m, vs with
  | .append, [x] => match v with
    | .ref n => match st[n]? with
      | some (.lst true xs) => if xs.length < line then some (.ok (.pv .non) (st.set n (.lst true (xs ++ [x])))) else none
      | _ => none
    | _ => none
  | .get2, [k, d] => match peek st v, peek st k, d with
    | some (.dk kvs), some k, .pv d => match keyK k with
      | some k => some (.ok (.pv ((look k kvs).getD d)) st)
      | none => none
    | some (.dt kvs), some k, .pv d => match keyT k with
      | some k => some (.ok (.pv ((look k kvs).getD d)) st)
      | none => none
    | _, _, _ => none
  | _, _ => none
/-- v[i] -/
def getI (v i : LV) (st : Store) : Option ER := match v with
  | .ref n => match st[n]?, i with
    | some (.lst _ xs), .pv (.int i) => match atI xs i with
      | some x => some (.ok x st)
      | none => none
    | some (.dk _ kvs), .pv k => match keyK k with
      | some k => match look k kvs with
        | some x => some (.ok x st)
        | none => none
      | none => none
    | some (.dt _ kvs), .pv k => match keyT k with
      | some k => match look k kvs with
        | some x => some (.ok x st)
        | none => none
      | none => none
    | _, _ => none
  | .pv p => match i with
    | .pv i => okP st (doIdx p i)
    | _ => none
  | .tup xs => match i with
    | .pv (.int i) => match atI xs i with
      | some x => some (.ok x st)
      | none => none
    | _ => none
/-- v[i] = x -/
def setI (v i x : LV) (st : Store) : Option Store := match v with
  | .ref n => match st[n]?, i with
    | some (.lst true xs), .pv (.int i) => match ixN xs.length i with
      | some j => some (st.set n (.lst true (xs.set j x)))
      | none => none
    | some (.dk true kvs), .pv k => match keyK k with
      | some k => if kvs.length < line then some (st.set n (.dk true (putD k x kvs))) else none
      | none => none
    | some (.dt true kvs), .pv k => match keyT k with
      | some k => if kvs.length < line then some (st.set n (.dt true (putD k x kvs))) else none
      | none => none
    | _, _ => none
  | _ => none
def bin (op : BO) (a b : LV) (st : Store) : Option ER := match peek st a, peek st b with
  | some x, some y => okP st (doBin op x y)
  | _, _ => none
def cmp (op : CO) (a b : LV) (st : Store) : Option ER := match peek st a, peek st b with
  | some x, some y => (doCmp op x y).map fun c => .ok (.pv (.bl c)) st
  | _, _ => none
def cmpT (op : CO) (a b : LV) (st : Store) : Option ET := match peek st a, peek st b with
  | some x, some y => (doCmp op x y).map fun c => .ok c st
  | _, _ => none
def truL (a : LV) (st : Store) : Option Bool := match peek st a with
  | some x => tru x
  | none => none
def optI : Option LV → Option (Option Int)
  | none => some none
  | some (.pv (.int i)) => some (some i)
  | _ => none

section
variable (S : Sem)
mutual
def evE : ME → Slots → Store → Option ER
  | .var i, φ, st => match φ[i]? with
    | some (some v) => some (.ok v st)
    | _ => none
  | .lit p, _, st => some (.ok (.pv p) st)
  | .glb g, _, st => okP st (S.glb g)
  | .tup es, φ, st => Rs.bind (evEs es φ st) fun vs st => if vs.length ≤ line then some (.ok (mkTup vs) st) else none
  | .lst live es, φ, st => Rs.bind (evEs es φ st) fun vs st => mkLst live vs st
  | .dnew t, _, st => some (.ok (.ref st.length) (st ++ [if t then .dt true [] else .dk true []]))
  | .bin op a b, φ, st => R.bind (evE a φ st) fun x st => R.bind (evE b φ st) fun y st => bin op x y st
  | .cmp op a b, φ, st => R.bind (evE a φ st) fun x st => R.bind (evE b φ st) fun y st => cmp op x y st
  | .boolop c es, φ, st => evB c es φ st
  | .not a, φ, st => R.bind (evE a φ st) fun x st => match truL x st with
    | some b => some (.ok (.pv (.bl (!b))) st)
    | none => none
  | .neg a, φ, st => R.bind (evE a φ st) fun x st => match x with
    | .pv (.int i) => some (.ok (.pv (.int (-i))) st)
    | _ => none
  | .ite c a b, φ, st => T.bind (evT c φ st) fun d st => if d then evE a φ st else evE b φ st
  | .idx a i, φ, st => R.bind (evE a φ st) fun x st => R.bind (evE i φ st) fun y st => getI x y st
  | .slc a l lo h hi, φ, st => R.bind (evE a φ st) fun x st => R.bind (if l then evE lo φ st else some (.ok (.pv .non) st)) fun lv st => match optL l lv with
      | some lo => R.bind (if h then evE hi φ st else some (.ok (.pv .non) st)) fun hv st => match optL h hv, peek st x with
        | some hi, some x => okP st (doSlc x lo hi)
        | _, _ => none
      | none => none
  | .isn neg a, φ, st => R.bind (evE a φ st) fun x st => match x with
    | .pv .non => some (.ok (.pv (.bl (!neg))) st)
    | _ => some (.ok (.pv (.bl neg)) st)
  | .isi t a, φ, st => R.bind (evE a φ st) fun x st => match peek st x with
    | some x => (isTy t x).map fun b => .ok (.pv (.bl b)) st
    | none => none
  | .bi b es, φ, st => Rs.bind (evEs es φ st) fun vs st => match peeks st vs with
    | some ps => okP st (doBI b ps)
    | none => none
  | .bm m r es, φ, st => R.bind (evE r φ st) fun x st => if bmOk m x st then Rs.bind (evEs es φ st) fun vs st => doBM m x vs st else none
  | .call f es, φ, st => Rs.bind (evEs es φ st) fun vs st => S.call f vs st
  | .lc live elt tg ik src ifs own, φ, st => Rs.bind (evEs src φ st) fun vs st => match unpv vs with
    | some ps => match items ik ps with
      | some xs => match lcLoop (fun x st => match asgG tg (.pv x) (wipeL φ own) with
          | some φ1 => evIf ifs φ1 st fun st => R.bs (evE elt φ1 st) fun y st => some (.ok [y] st)
          | none => none) xs st with
        | some (vs, st) => mkLst live vs st
        | none => none
      | none => none
    | none => none
  | .frz a, φ, st => R.bind (evE a φ st) fun x st => (frz x st).map fun p => .ok (.pv p.1) p.2
def evEs : List ME → Slots → Store → Option ERs
  | [], _, st => some (.ok [] st)
  | e :: es, φ, st => R.bs (evE e φ st) fun v st => Rs.bs (evEs es φ st) fun vs st => some (.ok (v :: vs) st)
def evT : MT → Slots → Store → Option ET
  | .boolop c es, φ, st => evBT c es φ st
  | .not a, φ, st => T.bt (evT a φ st) fun b st => some (.ok (!b) st)
  | .val e, φ, st => R.bt (evE e φ st) fun v st => (truL v st).map fun b => .ok b st
  | .cmp op a b, φ, st => R.bt (evE a φ st) fun x st => R.bt (evE b φ st) fun y st => cmpT op x y st
  | .isn neg a, φ, st => R.bt (evE a φ st) fun x st => match x with
    | .pv .non => some (.ok (!neg) st)
    | _ => some (.ok neg st)
def evB (c : Bool) : List ME → Slots → Store → Option ER
  | [], _, _ => none
  | [e], φ, st => evE e φ st
  | e :: es, φ, st => R.bind (evE e φ st) fun v st => match truL v st with
    | some b => if b == c then evB c es φ st else some (.ok v st)
    | none => none
def evBT (c : Bool) : List MT → Slots → Store → Option ET
  | [], _, _ => none
  | [e], φ, st => evT e φ st
  | e :: es, φ, st => T.bt (evT e φ st) fun b st => if b == c then evBT c es φ st else some (.ok b st)
def evIf : List MT → Slots → Store → (Store → Option ERs) → Option ERs
  | [], _, st, k => k st
  | c :: _, φ, st, k => match evT c φ st with
    | some (.ok true st) => k st
    | some (.ok false st) => some (.ok [] st)
    | some (.ex e st) => some (.ex e st)
    | none => none
end
end
end Z
end

section
namespace Z
example (S : Sem) (p φ st) : evE S (.lit p) φ st = some (.ok (.pv p) st) := rfl
example (S : Sem) (a b φ st) : evE S (.bin .add a b) φ st = R.bind (evE S a φ st) fun x st => R.bind (evE S b φ st) fun y st => bin .add x y st := rfl

def sq (st : Store) : LV → Option (List LV)
  | .ref n => match st[n]? with
    | some (.lst _ xs) => some xs
    | _ => none
  | .pv (.lst ps) => some (ps.map .pv)
  | _ => none
def doAug (op : BO) (p q : PV) : Option PV := match op, p with
  | .pow, _ => none
  | _, .lst _ => none
  | _, _ => doBin op p q
/-- x op= y: a list is made longer in place -/
def augOp (op : BO) (x y : LV) (st : Store) : Option ER := match x with
  | .ref n => match op, st[n]?, sq st y with
    | .add, some (.lst true xs), some ys => if xs.length + ys.length ≤ line then some (.ok (.ref n) (st.set n (.lst true (xs ++ ys)))) else none
    | _, _, _ => none
  | .pv p => match peek st y with
    | some q => okP st (doAug op p q)
    | none => none
  | .tup _ => none
def forLoop (step : PV → Slots → Store → Option FR) : List PV → Slots → Store → Option FR
  | [], φ, st => some (.nx φ st)
  | x :: xs, φ, st => match step x φ st with
    | some (.nx φ st) => forLoop step xs φ st
    | some (.ct φ st) => forLoop step xs φ st
    | some (.bk φ st) => some (.nx φ st)
    | r => r
def whLoop (test : Slots → Store → Option ET) (body : Slots → Store → Option FR) : Nat → Slots → Store → Option FR
  | 0, _, _ => none
  | n + 1, φ, st => T.bf φ (test φ st) fun b st => if b then match body φ st with
      | some (.nx φ st) => whLoop test body n φ st
      | some (.ct φ st) => whLoop test body n φ st
      | some (.bk φ st) => some (.nx φ st)
      | r => r
    else some (.nx φ st)
section
variable (S : Sem)
mutual
def exS : MS → Slots → Store → Option FR
  | .ex e, φ, st => R.bf φ (evE S e φ st) fun _ st => some (.nx φ st)
  | .asg g e, φ, st => R.bf φ (evE S e φ st) fun v st => (asgG g v φ).map fun φ => .nx φ st
  | .asgI a i e, φ, st => R.bf φ (evE S e φ st) fun v st => R.bf φ (evE S a φ st) fun x st => R.bf φ (evE S i φ st) fun y st => (setI x y v st).map fun st => .nx φ st
  | .aug i op e, φ, st => match φ[i]? with
    | some (some x) => R.bf φ (evE S e φ st) fun y st => R.bf φ (augOp op x y st) fun z st => some (.nx (φ.set i (some z)) st)
    | _ => none
  | .augI a i op e, φ, st => R.bf φ (evE S a φ st) fun x st => R.bf φ (evE S i φ st) fun y st => R.bf φ (getI x y st) fun v st => R.bf φ (evE S e φ st) fun w st =>
      R.bf φ (augOp op v w st) fun z st => (setI x y z st).map fun st => .nx φ st
  | .iff c a b, φ, st => T.bf φ (evT S c φ st) fun d st => if d then exSs a φ st else exSs b φ st
  | .whl c a, φ, st => whLoop (evT S c) (exSs a) S.wf φ st
  | .for_ g ik src a, φ, st => Rs.bf φ (evEs S src φ st) fun vs st => match unpv vs with
    | some ps => match items ik ps with
      | some xs => forLoop (fun x φ st => match asgG g (.pv x) φ with
          | some φ => exSs a φ st
          | none => none) xs φ st
      | none => none
    | none => none
  | .ret e, φ, st => R.bf φ (evE S e φ st) fun v st => some (.rt v st)
  | .retN, _, st => some (.rt (.pv .non) st)
  | .brk, φ, st => some (.bk φ st)
  | .cnt, φ, st => some (.ct φ st)
  | .pass, φ, st => some (.nx φ st)
def exSs : List MS → Slots → Store → Option FR
  | [], φ, st => some (.nx φ st)
  | s :: ss, φ, st => match exS s φ st with
    | some (.nx φ st) => exSs ss φ st
    | r => r
end
end
/-- a def: how many parameters, how many names, its body -/
structure MD where
  ar : Nat
  nn : Nat
  body : List MS
  deriving Inhabited
def endR : Option FR → Option ER
  | some (.nx _ st) => some (.ok (.pv .non) st)
  | some (.rt v st) => some (.ok v st)
  | some (.ex e _ st) => some (.ex e st)
  | _ => none
def MD.run (d : MD) (S : Sem) (vs : List LV) (st : Store) : Option ER :=
  if vs.length = d.ar then endR (exSs S d.body (vs.map some ++ List.replicate (d.nn - d.ar) none) st) else none
structure Prog where
  defs : List MD
  glb : Nat → Option PV
  shr : Nat → Bool
  wf : Nat
/-- n calls deep -/
def Prog.cal (P : Prog) : Nat → Nat → List LV → Store → Option ER
  | 0, _, _, _ => none
  | n + 1, f, vs, st => match P.defs[f]? with
    | some d => d.run ⟨P.cal n, P.glb, P.shr, P.wf⟩ vs st
    | none => none
def Prog.sem (P : Prog) (n : Nat) : Sem := ⟨P.cal n, P.glb, P.shr, P.wf⟩
end Z
end

section
/-! ZD: how trees and cells lie in the abstract heap of the layer. -/
namespace Z
open PySem L2
def mkS (s : Sg) : Str := ⟨s.toArray⟩
def okS (s : Sg) : Bool := s.all fun c => decide (c < 0x110000)
def kyS : Ky → Key
  | .inl i => .inl i
  | .inr s => .inr (mkS s)
def okK : Ky → Bool
  | .inl _ => true
  | .inr s => okS s
theorem mkS_inj {a b : Sg} (h : mkS a = mkS b) : a = b := by
  have h1 : a.toArray = b.toArray := by simpa [mkS] using h
  simpa using congrArg Array.toList h1
theorem mkS_len (a : Sg) : (mkS a).length = a.length := by simp [mkS, Str.length]
theorem mkS_cps (a : Sg) : (mkS a).cps.toList = a := by simp [mkS]
theorem kyS_inj {a b : Ky} (h : kyS a = kyS b) : a = b := by
  cases a <;> cases b <;> simp only [kyS, Sum.inl.injEq, Sum.inr.injEq, reduceCtorEq] at h
  · rw [h]
  · rw [mkS_inj h]
theorem kySs_inj : ∀ {a b : List Ky}, a.map kyS = b.map kyS → a = b
  | [], [], _ => rfl
  | [], _ :: _, h => by simp at h
  | _ :: _, [], h => by simp at h
  | x :: a, y :: b, h => by
    simp only [List.map_cons, List.cons.injEq] at h
    rw [kyS_inj h.1, kySs_inj h.2]

section
variable (K : PySem.W.Frag) (F : Hp)
mutual
/-- the tree p lies at v; all its objects stand in F -/
def RP : PV → V → Prop
  | .non, v => v = .non
  | .bl b, v => v = .bl b
  | .int i, v => v = .int i
  | .str s, v => v = .str (mkS s) ∧ okS s = true
  | .tup xs, v => ∃ a vs, v = .ref a ∧ F a = some (.tup vs) ∧ RPs xs vs
  | .lst xs, v => ∃ a vs, v = .ref a ∧ F a = some (.lst vs) ∧ RPs xs vs
  | .dk kvs, v => ∃ a ks, v = .ref a ∧ F a = some (.dK ks) ∧ RPk kvs ks
  | .dt kvs, v => ∃ a ks, v = .ref a ∧ F a = some (.dT ks) ∧ RPt kvs ks
  | .scr ns, v => ∃ a, v = .ref a ∧ SqL K F a (ns.map V.int)
def RPs : List PV → List V → Prop
  | [], vs => vs = []
  | x :: xs, vs => ∃ v r, vs = v :: r ∧ RP x v ∧ RPs xs r
def RPk : List (Ky × PV) → List (Key × V) → Prop
  | [], ks => ks = []
  | (k, p) :: xs, ks => ∃ v r, ks = (kyS k, v) :: r ∧ okK k = true ∧ RP p v ∧ RPk xs r
def RPt : List (List Ky × PV) → List (List Key × V) → Prop
  | [], ks => ks = []
  | (k, p) :: xs, ks => ∃ v r, ks = (k.map kyS, v) :: r ∧ k.all okK = true ∧ RP p v ∧ RPt xs r
end
variable (ρ : List Addr)
mutual
def RL : LV → V → Prop
  | .pv p, v => RP K F p v
  | .ref n, v => ∃ a, v = .ref a ∧ ρ[n]? = some a
  | .tup xs, v => ∃ a vs, v = .ref a ∧ F a = some (.tup vs) ∧ RLs xs vs
def RLs : List LV → List V → Prop
  | [], vs => vs = []
  | x :: xs, vs => ∃ v r, vs = v :: r ∧ RL x v ∧ RLs xs r
end
def RLk : List (Ky × LV) → List (Key × V) → Prop
  | [], ks => ks = []
  | (k, p) :: xs, ks => ∃ v r, ks = (kyS k, v) :: r ∧ okK k = true ∧ RL K F ρ p v ∧ RLk xs r
def RLt : List (List Ky × LV) → List (List Key × V) → Prop
  | [], ks => ks = []
  | (k, p) :: xs, ks => ∃ v r, ks = (k.map kyS, v) :: r ∧ k.all okK = true ∧ RL K F ρ p v ∧ RLt xs r
end

/-- F stands in F' -/
abbrev Sub (F F' : Hp) : Prop := ∀ b o, F b = some o → F' b = some o
theorem Sub.refl (F : Hp) : Sub F F := fun _ _ h => h
theorem Sub.trans {F F' F'' : Hp} (a : Sub F F') (b : Sub F' F'') : Sub F F'' := fun c o h => b c o (a c o h)
theorem Sub.sqT {K : PySem.W.Frag} {F F' : Hp} {a : Addr} {xs : List V} (e : Sub F F') (h : SqT K F a xs) : SqT K F' a xs := by
  rcases h with (h | ⟨o, h⟩) | h
  · exact .inl (.inl (e _ _ h))
  · exact .inl (.inr ⟨o, e _ _ h⟩)
  · exact .inr h
theorem Sub.sqL {K : PySem.W.Frag} {F F' : Hp} {a : Addr} {xs : List V} (e : Sub F F') (h : SqL K F a xs) : SqL K F' a xs := by
  rcases h with (h | ⟨o, h⟩) | h
  · exact .inl (.inl (e _ _ h))
  · exact .inl (.inr ⟨o, e _ _ h⟩)
  · exact .inr h
section
variable {K : PySem.W.Frag} {F F' : Hp}
mutual
theorem RP.mono (e : Sub F F') : ∀ (p : PV) (v : V), RP K F p v → RP K F' p v
  | .non, v, h => by simpa only [RP] using h
  | .bl b, v, h => by simpa only [RP] using h
  | .int i, v, h => by simpa only [RP] using h
  | .str s, v, h => by simpa only [RP] using h
  | .tup xs, v, h => by
    simp only [RP] at h ⊢
    obtain ⟨a, vs, e1, e2, e3⟩ := h
    exact ⟨a, vs, e1, e _ _ e2, RPs.mono e xs vs e3⟩
  | .lst xs, v, h => by
    simp only [RP] at h ⊢
    obtain ⟨a, vs, e1, e2, e3⟩ := h
    exact ⟨a, vs, e1, e _ _ e2, RPs.mono e xs vs e3⟩
  | .dk kvs, v, h => by
    simp only [RP] at h ⊢
    obtain ⟨a, vs, e1, e2, e3⟩ := h
    exact ⟨a, vs, e1, e _ _ e2, RPk.mono e kvs vs e3⟩
  | .dt kvs, v, h => by
    simp only [RP] at h ⊢
    obtain ⟨a, vs, e1, e2, e3⟩ := h
    exact ⟨a, vs, e1, e _ _ e2, RPt.mono e kvs vs e3⟩
  | .scr ns, v, h => by
    simp only [RP] at h ⊢
    obtain ⟨a, e1, e2⟩ := h
    exact ⟨a, e1, e.sqL e2⟩
theorem RPs.mono (e : Sub F F') : ∀ (ps : List PV) (vs : List V), RPs K F ps vs → RPs K F' ps vs
  | [], vs, h => by simpa only [RPs] using h
  | x :: xs, vs, h => by
    simp only [RPs] at h ⊢
    obtain ⟨v, r, e1, e2, e3⟩ := h
    exact ⟨v, r, e1, RP.mono e x v e2, RPs.mono e xs r e3⟩
theorem RPk.mono (e : Sub F F') : ∀ (ps : List (Ky × PV)) (vs : List (Key × V)), RPk K F ps vs → RPk K F' ps vs
  | [], vs, h => by simpa only [RPk] using h
  | (k, x) :: xs, vs, h => by
    simp only [RPk] at h ⊢
    obtain ⟨v, r, e1, e2, e3, e4⟩ := h
    exact ⟨v, r, e1, e2, RP.mono e x v e3, RPk.mono e xs r e4⟩
theorem RPt.mono (e : Sub F F') : ∀ (ps : List (List Ky × PV)) (vs : List (List Key × V)), RPt K F ps vs → RPt K F' ps vs
  | [], vs, h => by simpa only [RPt] using h
  | (k, x) :: xs, vs, h => by
    simp only [RPt] at h ⊢
    obtain ⟨v, r, e1, e2, e3, e4⟩ := h
    exact ⟨v, r, e1, e2, RP.mono e x v e3, RPt.mono e xs r e4⟩
end
/-- cells keep their numbers -/
abbrev Pre (ρ ρ' : List Addr) : Prop := ∀ (n : Nat) (a : Addr), ρ[n]? = some a → ρ'[n]? = some a
theorem Pre.refl (ρ : List Addr) : Pre ρ ρ := fun _ _ h => h
theorem Pre.trans {a b c : List Addr} (x : Pre a b) (y : Pre b c) : Pre a c := fun n k h => y n k (x n k h)
theorem Pre.snoc (ρ : List Addr) (a : Addr) : Pre ρ (ρ ++ [a]) := fun n b h => by
  rw [List.getElem?_append_left (List.getElem?_eq_some_iff.mp h).1]
  exact h
variable {ρ ρ' : List Addr}
mutual
theorem RL.mono (e : Sub F F') (q : Pre ρ ρ') : ∀ (p : LV) (v : V), RL K F ρ p v → RL K F' ρ' p v
  | .pv p, v, h => by
    simp only [RL] at h ⊢
    exact RP.mono e p v h
  | .ref n, v, h => by
    simp only [RL] at h ⊢
    obtain ⟨a, e1, e2⟩ := h
    exact ⟨a, e1, q _ _ e2⟩
  | .tup xs, v, h => by
    simp only [RL] at h ⊢
    obtain ⟨a, vs, e1, e2, e3⟩ := h
    exact ⟨a, vs, e1, e _ _ e2, RLs.mono e q xs vs e3⟩
theorem RLs.mono (e : Sub F F') (q : Pre ρ ρ') : ∀ (ps : List LV) (vs : List V), RLs K F ρ ps vs → RLs K F' ρ' ps vs
  | [], vs, h => by simpa only [RLs] using h
  | x :: xs, vs, h => by
    simp only [RLs] at h ⊢
    obtain ⟨v, r, e1, e2, e3⟩ := h
    exact ⟨v, r, e1, RL.mono e q x v e2, RLs.mono e q xs r e3⟩
end
theorem RLk.mono (e : Sub F F') (q : Pre ρ ρ') : ∀ {ps : List (Ky × LV)} {vs : List (Key × V)}, RLk K F ρ ps vs → RLk K F' ρ' ps vs
  | [], vs, h => by simpa only [RLk] using h
  | (k, x) :: xs, vs, h => by
    simp only [RLk] at h ⊢
    obtain ⟨v, r, e1, e2, e3, e4⟩ := h
    exact ⟨v, r, e1, e2, RL.mono e q x v e3, RLk.mono e q e4⟩
theorem RLt.mono (e : Sub F F') (q : Pre ρ ρ') : ∀ {ps : List (List Ky × LV)} {vs : List (List Key × V)}, RLt K F ρ ps vs → RLt K F' ρ' ps vs
  | [], vs, h => by simpa only [RLt] using h
  | (k, x) :: xs, vs, h => by
    simp only [RLt] at h ⊢
    obtain ⟨v, r, e1, e2, e3, e4⟩ := h
    exact ⟨v, r, e1, e2, RL.mono e q x v e3, RLt.mono e q e4⟩

/-! ### lists of trees -/
theorem RPs.length : ∀ {xs : List PV} {vs : List V}, RPs K F xs vs → xs.length = vs.length
  | [], vs, h => by simp only [RPs] at h; subst h; rfl
  | x :: xs, vs, h => by
    simp only [RPs] at h
    obtain ⟨v, r, e1, _, e3⟩ := h
    subst e1
    rw [List.length_cons, List.length_cons, RPs.length e3]
theorem RPs.get : ∀ {xs : List PV} {vs : List V} {i : Nat} {x : PV}, RPs K F xs vs → xs[i]? = some x → ∃ v, vs[i]? = some v ∧ RP K F x v
  | [], _, _, _, _, e => by simp at e
  | x :: xs, vs, 0, y, h, e => by
    simp only [RPs] at h
    obtain ⟨v, r, e1, e2, e3⟩ := h
    subst e1
    simp only [List.getElem?_cons_zero, Option.some.injEq] at e
    subst e
    exact ⟨v, rfl, e2⟩
  | x :: xs, vs, i + 1, y, h, e => by
    simp only [RPs] at h
    obtain ⟨v, r, e1, e2, e3⟩ := h
    subst e1
    rw [List.getElem?_cons_succ] at e
    obtain ⟨w, h1, h2⟩ := RPs.get e3 e
    exact ⟨w, by simpa using h1, h2⟩
theorem RPs.append : ∀ {xs ys : List PV} {vs ws : List V}, RPs K F xs vs → RPs K F ys ws → RPs K F (xs ++ ys) (vs ++ ws)
  | [], _, vs, _, h, h' => by simp only [RPs] at h; subst h; exact h'
  | x :: xs, ys, vs, ws, h, h' => by
    simp only [RPs] at h
    obtain ⟨v, r, e1, e2, e3⟩ := h
    subst e1
    show RPs K F (x :: (xs ++ ys)) (v :: (r ++ ws))
    simp only [RPs]
    exact ⟨v, r ++ ws, rfl, e2, RPs.append e3 h'⟩
theorem RPs.drop : ∀ {xs : List PV} {vs : List V} (n : Nat), RPs K F xs vs → RPs K F (xs.drop n) (vs.drop n)
  | _, _, 0, h => h
  | [], vs, n + 1, h => by simp only [RPs] at h; subst h; simp [RPs]
  | x :: xs, vs, n + 1, h => by
    simp only [RPs] at h
    obtain ⟨v, r, e1, e2, e3⟩ := h
    subst e1
    simpa using RPs.drop n e3
theorem RPs.take : ∀ {xs : List PV} {vs : List V} (n : Nat), RPs K F xs vs → RPs K F (xs.take n) (vs.take n)
  | xs, _, 0, h => by simp [RPs]
  | [], vs, n + 1, h => by simp only [RPs] at h; subst h; simp [RPs]
  | x :: xs, vs, n + 1, h => by
    simp only [RPs] at h
    obtain ⟨v, r, e1, e2, e3⟩ := h
    subst e1
    simp only [List.take_succ_cons, RPs]
    exact ⟨v, _, rfl, e2, RPs.take n e3⟩
theorem RLs.length : ∀ {xs : List LV} {vs : List V}, RLs K F ρ xs vs → xs.length = vs.length
  | [], vs, h => by simp only [RLs] at h; subst h; rfl
  | x :: xs, vs, h => by
    simp only [RLs] at h
    obtain ⟨v, r, e1, _, e3⟩ := h
    subst e1
    rw [List.length_cons, List.length_cons, RLs.length e3]
theorem RLs.get : ∀ {xs : List LV} {vs : List V} {i : Nat} {x : LV}, RLs K F ρ xs vs → xs[i]? = some x → ∃ v, vs[i]? = some v ∧ RL K F ρ x v
  | [], _, _, _, _, e => by simp at e
  | x :: xs, vs, 0, y, h, e => by
    simp only [RLs] at h
    obtain ⟨v, r, e1, e2, e3⟩ := h
    subst e1
    simp only [List.getElem?_cons_zero, Option.some.injEq] at e
    subst e
    exact ⟨v, rfl, e2⟩
  | x :: xs, vs, i + 1, y, h, e => by
    simp only [RLs] at h
    obtain ⟨v, r, e1, e2, e3⟩ := h
    subst e1
    rw [List.getElem?_cons_succ] at e
    obtain ⟨w, h1, h2⟩ := RLs.get e3 e
    exact ⟨w, by simpa using h1, h2⟩
theorem RLs.append : ∀ {xs ys : List LV} {vs ws : List V}, RLs K F ρ xs vs → RLs K F ρ ys ws → RLs K F ρ (xs ++ ys) (vs ++ ws)
  | [], _, vs, _, h, h' => by simp only [RLs] at h; subst h; exact h'
  | x :: xs, ys, vs, ws, h, h' => by
    simp only [RLs] at h
    obtain ⟨v, r, e1, e2, e3⟩ := h
    subst e1
    show RLs K F ρ (x :: (xs ++ ys)) (v :: (r ++ ws))
    simp only [RLs]
    exact ⟨v, r ++ ws, rfl, e2, RLs.append e3 h'⟩
theorem RLs.set {x : LV} {v : V} (h : RL K F ρ x v) : ∀ {xs : List LV} {vs : List V} (i : Nat), RLs K F ρ xs vs → RLs K F ρ (xs.set i x) (vs.set i v)
  | [], vs, i, q => by simp only [RLs] at q; subst q; simp [RLs]
  | y :: ys, vs, 0, q => by
    simp only [RLs] at q
    obtain ⟨w, r, e1, e2, e3⟩ := q
    subst e1
    simp only [List.set_cons_zero, RLs]
    exact ⟨v, r, rfl, h, e3⟩
  | y :: ys, vs, i + 1, q => by
    simp only [RLs] at q
    obtain ⟨w, r, e1, e2, e3⟩ := q
    subst e1
    simp only [List.set_cons_succ, RLs]
    exact ⟨w, _, rfl, e2, RLs.set h i e3⟩
theorem RLs_pv : ∀ {xs : List PV} {vs : List V}, RLs K F ρ (xs.map .pv) vs ↔ RPs K F xs vs
  | [], vs => by simp [RLs, RPs]
  | x :: xs, vs => by
    simp only [List.map_cons, RLs, RPs, RL]
    constructor
    · rintro ⟨v, r, e1, e2, e3⟩
      exact ⟨v, r, e1, e2, RLs_pv.mp e3⟩
    · rintro ⟨v, r, e1, e2, e3⟩
      exact ⟨v, r, e1, e2, RLs_pv.mpr e3⟩
theorem RLk_pv : ∀ {xs : List (Ky × PV)} {vs : List (Key × V)}, RLk K F ρ (xs.map fun kv => (kv.1, LV.pv kv.2)) vs ↔ RPk K F xs vs
  | [], vs => by simp [RLk, RPk]
  | (k, x) :: xs, vs => by
    simp only [List.map_cons, RLk, RPk, RL]
    constructor
    · rintro ⟨v, r, e1, e2, e3, e4⟩
      exact ⟨v, r, e1, e2, e3, RLk_pv.mp e4⟩
    · rintro ⟨v, r, e1, e2, e3, e4⟩
      exact ⟨v, r, e1, e2, e3, RLk_pv.mpr e4⟩
theorem RLt_pv : ∀ {xs : List (List Ky × PV)} {vs : List (List Key × V)}, RLt K F ρ (xs.map fun kv => (kv.1, LV.pv kv.2)) vs ↔ RPt K F xs vs
  | [], vs => by simp [RLt, RPt]
  | (k, x) :: xs, vs => by
    simp only [List.map_cons, RLt, RPt, RL]
    constructor
    · rintro ⟨v, r, e1, e2, e3, e4⟩
      exact ⟨v, r, e1, e2, e3, RLt_pv.mp e4⟩
    · rintro ⟨v, r, e1, e2, e3, e4⟩
      exact ⟨v, r, e1, e2, e3, RLt_pv.mpr e4⟩
theorem RL_mkTup {vs : List LV} {ws : List V} {a : Addr} (h : RLs K F ρ vs ws) (ha : F a = some (.tup ws)) : RL K F ρ (mkTup vs) (.ref a) := by
  unfold mkTup
  cases e : unpv vs with
  | none =>
    simp only [RL]
    exact ⟨a, ws, rfl, ha, h⟩
  | some ps =>
    simp only [RL, RP]
    rw [unpv_eq e] at h
    exact ⟨a, ws, rfl, ha, RLs_pv.mp h⟩
end

/-! ### the heap -/
section
variable (K : PySem.W.Frag) (F : Hp) (ρ : List Addr) (cad : Nat → Addr) (fnm : Nat → Str) (H : Hp)
def CR (a : Addr) : Cell → Prop
  | .lst live xs => ∃ vs, H a = some (.lst vs) ∧ RLs K F ρ xs vs ∧ (live = true → F a = none) ∧ (live = false → F a = some (.lst vs))
  | .dk live kvs => ∃ ks, H a = some (.dK ks) ∧ RLk K F ρ kvs ks ∧ (live = true → F a = none) ∧ (live = false → F a = some (.dK ks))
  | .dt live kvs => ∃ ks, H a = some (.dT ks) ∧ RLt K F ρ kvs ks ∧ (live = true → F a = none) ∧ (live = false → F a = some (.dT ks))
  | .ins C fs => ∃ dx vs, H a = some (.ins (cad C) dx ((fs.map fun f => fnm f.1).zip vs)) ∧ RLs K F ρ (fs.map (·.2)) vs ∧ F a = none
structure HR (st : Store) : Prop where
  sub : Sub F H
  len : ρ.length = st.length
  nd : ρ.Nodup
  cell : ∀ (n : Nat) (a : Addr) (c : Cell), ρ[n]? = some a → st[n]? = some c → CR K F ρ cad fnm H a c
end
/-- what may have come to pass -/
structure G (F : Hp) (ρ : List Addr) (H : Hp) (F' : Hp) (ρ' : List Addr) (H' : Hp) : Prop where
  sub : Sub F F'
  pre : Pre ρ ρ'
  keep : ∀ b o, H b = some o → b ∉ ρ → H' b = some o
  new : ∀ b o, F' b = some o → F b = some o ∨ H b = none ∨ b ∈ ρ
  newρ : ∀ b, b ∈ ρ' → b ∈ ρ ∨ H b = none
  hold : ∀ b, H b ≠ none → H' b ≠ none
theorem G.refl (F : Hp) (ρ : List Addr) (H : Hp) : G F ρ H F ρ H := ⟨Sub.refl F, Pre.refl ρ, fun _ _ h _ => h, fun _ _ h => .inl h, fun _ h => .inl h, fun _ h => h⟩
theorem G.trans {F F' F'' H H' H'' : Hp} {ρ ρ' ρ'' : List Addr} (a : G F ρ H F' ρ' H') (b : G F' ρ' H' F'' ρ'' H'') : G F ρ H F'' ρ'' H'' where
  sub := a.sub.trans b.sub
  pre := a.pre.trans b.pre
  keep := fun c o h n => b.keep c o (a.keep c o h n) fun m => by
    rcases a.newρ c m with z | z
    · exact n z
    · rw [h] at z; cases z
  new := fun c o h => by
    rcases b.new c o h with z | z | z
    · exact a.new c o z
    · cases q : H c with
      | none => exact .inr (.inl rfl)
      | some u => exact absurd z (a.hold c (by simp [q]))
    · rcases a.newρ c z with y | y
      · exact .inr (.inr y)
      · exact .inr (.inl y)
  newρ := fun c h => by
    rcases b.newρ c h with z | z
    · exact a.newρ c z
    · cases q : H c with
      | none => exact .inr rfl
      | some u => exact absurd z (a.hold c (by simp [q]))
  hold := fun c h => b.hold c (a.hold c h)
end Z
end

section
/-! ZE: readings, the heap's steps, operators on trees. -/
namespace Z
open PySem L2
/-- where classes stand, what fields are called -/
structure Nm where
  cad : Nat → Addr
  ead : Nat → Addr
  fnm : Nat → Str
def SL (K : PySem.W.Frag) (F : Hp) (ρ : List Addr) (σ : St) (φ : Slots) : Prop :=
  φ.length = σ.length ∧ ∀ (i : Nat) (x : LV), φ[i]? = some (some x) → ∃ v, σ[i]? = some (some v) ∧ RL K F ρ x v
def RX (M : Nm) (K : PySem.W.Frag) (F H : Hp) (e : Ex) (cls : Value) (d : Option Addr) : Prop :=
  cls = .ref (M.ead e.cls) ∧ ((e.fs = [] ∧ d = none) ∨ ∃ dd vs, d = some dd ∧ H dd = some (.xd ((e.fs.map fun f => M.fnm f.1).zip vs)) ∧ RPs K F (e.fs.map (·.2)) vs)
section
variable {K : PySem.W.Frag} {F F' H H' : Hp} {ρ ρ' : List Addr} {σ : St} {φ : Slots} {st : Store} {M : Nm}
abbrev HR' (M : Nm) (K : PySem.W.Frag) (F : Hp) (ρ : List Addr) (H : Hp) (st : Store) : Prop := HR K F ρ M.cad M.fnm H st
theorem SL.mono (h : SL K F ρ σ φ) (e : Sub F F') (q : Pre ρ ρ') : SL K F' ρ' σ φ := ⟨h.1, fun i x hx => by
  obtain ⟨v, h1, h2⟩ := h.2 i x hx
  exact ⟨v, h1, RL.mono e q x v h2⟩⟩
theorem SL.g (h : SL K F ρ σ φ) (g : G F ρ H F' ρ' H') : SL K F' ρ' σ φ := h.mono g.sub g.pre
theorem SL.set {x : LV} {v : V} (h : SL K F ρ σ φ) (i : Nat) (r : RL K F ρ x v) : SL K F ρ (σ.set i (some v)) (φ.set i (some x)) := by
  refine ⟨by simp [h.1], fun j y hy => ?_⟩
  by_cases hj : i = j
  · subst hj
    by_cases hl : i < φ.length
    · rw [List.getElem?_set_self hl] at hy
      cases hy
      exact ⟨v, List.getElem?_set_self (by rw [← h.1]; exact hl), r⟩
    · rw [List.getElem?_eq_none (by simpa using Nat.le_of_not_lt hl)] at hy
      cases hy
  · rw [List.getElem?_set_ne hj] at hy ⊢
    exact h.2 j y hy
theorem CR.mono {a : Addr} {c : Cell} (h : CR K F ρ M.cad M.fnm H a c) (e : Sub F F') (q : Pre ρ ρ') (hH : ∀ o, H a = some o → H' a = some o) (hF : F a = none → F' a = none) : CR K F' ρ' M.cad M.fnm H' a c := by
  cases c with
  | lst live xs =>
    obtain ⟨vs, h1, h2, h3, h4⟩ := h
    exact ⟨vs, hH _ h1, RLs.mono e q _ _ h2, fun z => hF (h3 z), fun z => e _ _ (h4 z)⟩
  | dk live xs =>
    obtain ⟨vs, h1, h2, h3, h4⟩ := h
    exact ⟨vs, hH _ h1, RLk.mono e q h2, fun z => hF (h3 z), fun z => e _ _ (h4 z)⟩
  | dt live xs =>
    obtain ⟨vs, h1, h2, h3, h4⟩ := h
    exact ⟨vs, hH _ h1, RLt.mono e q h2, fun z => hF (h3 z), fun z => e _ _ (h4 z)⟩
  | ins C fs =>
    obtain ⟨dx, vs, h1, h2, h3⟩ := h
    exact ⟨dx, vs, hH _ h1, RLs.mono e q _ _ h2, hF h3⟩
theorem CR.there {a : Addr} {c : Cell} (h : CR K F ρ M.cad M.fnm H a c) : ∃ o, H a = some o := by
  cases c with
  | lst live xs => obtain ⟨vs, h1, _⟩ := h; exact ⟨_, h1⟩
  | dk live xs => obtain ⟨vs, h1, _⟩ := h; exact ⟨_, h1⟩
  | dt live xs => obtain ⟨vs, h1, _⟩ := h; exact ⟨_, h1⟩
  | ins C fs => obtain ⟨dx, vs, h1, _⟩ := h; exact ⟨_, h1⟩
theorem HR.at (h : HR' M K F ρ H st) {n : Nat} {a : Addr} (e : ρ[n]? = some a) : ∃ c, st[n]? = some c ∧ CR K F ρ M.cad M.fnm H a c := by
  have hn : n < st.length := by
    rw [← h.len]
    exact (List.getElem?_eq_some_iff.mp e).1
  exact ⟨st[n], List.getElem?_eq_getElem hn, h.cell n a _ e (List.getElem?_eq_getElem hn)⟩
theorem HR.in (h : HR' M K F ρ H st) {a : Addr} (e : a ∈ ρ) : ∃ o, H a = some o := by
  obtain ⟨n, hn, en⟩ := List.mem_iff_getElem.mp e
  obtain ⟨c, _, hc⟩ := h.at (n := n) (a := a) (by rw [List.getElem?_eq_getElem hn, en])
  exact hc.there
theorem HR.fresh (h : HR' M K F ρ H st) {p : Addr} (np : H p = none) : F p = none := by
  cases e : F p with
  | none => rfl
  | some o => rw [h.sub p o e] at np; cases np
theorem HR.notin (h : HR' M K F ρ H st) {p : Addr} (np : H p = none) : p ∉ ρ := fun e => by
  obtain ⟨o, ho⟩ := h.in e
  rw [ho] at np; cases np
theorem sub_upd {p : Addr} {o : HO} (np : F p = none) : Sub F (upd F p o) := fun b u e => by rw [upd_ne (ne_of_none e np)]; exact e
theorem sub_upd2 {p : Addr} {o : HO} (s : Sub F H) : Sub (upd F p o) (upd H p o) := fun b u e => by
  by_cases hb : b = p
  · subst hb; rw [upd_same] at e ⊢; exact e
  · rw [upd_ne hb] at e ⊢; exact s b u e
/-- a new object that nothing will change -/
theorem HR.new (h : HR' M K F ρ H st) {p : Addr} (np : H p = none) (o : HO) : G F ρ H (upd F p o) ρ (upd H p o) ∧ HR' M K (upd F p o) ρ (upd H p o) st := by
  have nF := h.fresh np
  refine ⟨⟨sub_upd nF, Pre.refl ρ, fun b u e _ => by rw [upd_ne (ne_of_none e np)]; exact e, fun b u e => ?_, fun b hb => .inl hb, fun b hb => ?_⟩,
    ⟨sub_upd2 h.sub, h.len, h.nd, fun n a c e1 e2 => ?_⟩⟩
  · by_cases hb : b = p
    · exact .inr (.inl (by rw [hb]; exact np))
    · rw [upd_ne hb] at e; exact .inl e
  · by_cases hp : b = p
    · rw [hp, upd_same]; simp
    · rw [upd_ne hp]; exact hb
  · have hc := h.cell n a c e1 e2
    obtain ⟨u, hu⟩ := hc.there
    have hne : a ≠ p := ne_of_none hu np
    exact hc.mono (sub_upd nF) (Pre.refl ρ) (fun u e => by rw [upd_ne hne]; exact e) fun e => by rw [upd_ne hne]; exact e
/-- a new object that only the heap knows of -/
theorem HR.laid (h : HR' M K F ρ H st) {p : Addr} (np : H p = none) (o : HO) : G F ρ H F ρ (upd H p o) ∧ HR' M K F ρ (upd H p o) st := by
  have nF := h.fresh np
  refine ⟨⟨Sub.refl F, Pre.refl ρ, fun b u e _ => by rw [upd_ne (ne_of_none e np)]; exact e, fun b u e => .inl e, fun b hb => .inl hb, fun b hb => ?_⟩,
    ⟨fun b u e => by rw [upd_ne (ne_of_none e nF)]; exact h.sub b u e, h.len, h.nd, fun n a c e1 e2 => ?_⟩⟩
  · by_cases hp : b = p
    · rw [hp, upd_same]; simp
    · rw [upd_ne hp]; exact hb
  · have hc := h.cell n a c e1 e2
    obtain ⟨u, hu⟩ := hc.there
    have hne : a ≠ p := ne_of_none hu np
    exact hc.mono (Sub.refl F) (Pre.refl ρ) (fun u e => by rw [upd_ne hne]; exact e) fun e => e
/-- a new cell -/
theorem HR.cellN (h : HR' M K F ρ H st) {p : Addr} (np : H p = none) {o : HO} {c : Cell} (hc : CR K F (ρ ++ [p]) M.cad M.fnm (upd H p o) p c) : G F ρ H F (ρ ++ [p]) (upd H p o) ∧ HR' M K F (ρ ++ [p]) (upd H p o) (st ++ [c]) := by
  have nF := h.fresh np
  have nρ := h.notin np
  refine ⟨⟨Sub.refl F, Pre.snoc ρ p, fun b u e _ => by rw [upd_ne (ne_of_none e np)]; exact e, fun b u e => .inl e, fun b hb => ?_, fun b hb => ?_⟩,
    ⟨fun b u e => by rw [upd_ne (ne_of_none e nF)]; exact h.sub b u e, by rw [List.length_append, List.length_append, h.len]; rfl, ?_, fun n a c' e1 e2 => ?_⟩⟩
  · rcases List.mem_append.mp hb with z | z
    · exact .inl z
    · have : b = p := by simpa using z
      subst this
      exact .inr np
  · by_cases hp : b = p
    · rw [hp, upd_same]; simp
    · rw [upd_ne hp]; exact hb
  · exact List.nodup_append.mpr ⟨h.nd, by simp, fun x hx y hy e => nρ (by
      have : y = p := by simpa using hy
      rw [← this, ← e]; exact hx)⟩
  · by_cases hn : n < ρ.length
    · rw [List.getElem?_append_left hn] at e1
      rw [List.getElem?_append_left (by rw [← h.len]; exact hn)] at e2
      have hc' := h.cell n a c' e1 e2
      obtain ⟨u, hu⟩ := hc'.there
      have hne : a ≠ p := ne_of_none hu np
      exact hc'.mono (Sub.refl F) (Pre.snoc ρ p) (fun u e => by rw [upd_ne hne]; exact e) fun e => e
    · have hn' : n = ρ.length := by
        have := (List.getElem?_eq_some_iff.mp e1).1
        rw [List.length_append] at this
        simp only [List.length_cons, List.length_nil] at this
        omega
      subst hn'
      rw [List.getElem?_append_right (Nat.le_refl _)] at e1
      rw [h.len, List.getElem?_append_right (Nat.le_refl _)] at e2
      simp only [Nat.sub_self, List.getElem?_cons_zero, Option.some.injEq] at e1 e2
      subst e1 e2
      exact hc
/-- a cell is written -/
theorem HR.write (h : HR' M K F ρ H st) {n : Nat} {a : Addr} (ea : ρ[n]? = some a) (hF : F a = none) {o : HO} {c : Cell} (hc : CR K F ρ M.cad M.fnm (upd H a o) a c) : G F ρ H F ρ (upd H a o) ∧ HR' M K F ρ (upd H a o) (st.set n c) := by
  have ha : a ∈ ρ := List.mem_of_getElem? ea
  refine ⟨⟨Sub.refl F, Pre.refl ρ, fun b u e hb => by rw [upd_ne (fun z => hb (by rw [z]; exact ha))]; exact e, fun b u e => .inl e, fun b hb => .inl hb, fun b hb => ?_⟩,
    ⟨fun b u e => by rw [upd_ne (ne_of_none e hF)]; exact h.sub b u e, by rw [List.length_set]; exact h.len, h.nd, fun m b c' e1 e2 => ?_⟩⟩
  · by_cases hp : b = a
    · rw [hp, upd_same]; simp
    · rw [upd_ne hp]; exact hb
  · by_cases hm : n = m
    · subst hm
      rw [ea] at e1
      cases e1
      rw [List.getElem?_set_self (by rw [← h.len]; exact (List.getElem?_eq_some_iff.mp ea).1)] at e2
      cases e2
      exact hc
    · rw [List.getElem?_set_ne hm] at e2
      have hc' := h.cell m b c' e1 e2
      have hne : b ≠ a := fun z => hm (by
        subst z
        obtain ⟨l1, x1⟩ := List.getElem?_eq_some_iff.mp ea
        obtain ⟨l2, x2⟩ := List.getElem?_eq_some_iff.mp e1
        exact (List.getElem_inj h.nd).mp (x1.trans x2.symm))
      exact hc'.mono (Sub.refl F) (Pre.refl ρ) (fun u e => by rw [upd_ne hne]; exact e) fun e => e
/-- a cell is frozen -/
theorem HR.froze (h : HR' M K F ρ H st) {n : Nat} {a : Addr} (ea : ρ[n]? = some a) {o : HO} (hH : H a = some o) {c : Cell} (hF : F a = none ∨ F a = some o) (hc : CR K (upd F a o) ρ M.cad M.fnm H a c) :
    G F ρ H (upd F a o) ρ H ∧ HR' M K (upd F a o) ρ H (st.set n c) := by
  have ha : a ∈ ρ := List.mem_of_getElem? ea
  have hs : Sub F (upd F a o) := fun b u e => by
    by_cases hb : b = a
    · subst hb
      rcases hF with z | z
      · rw [z] at e; cases e
      · rw [z] at e; rw [upd_same]; exact e
    · rw [upd_ne hb]; exact e
  refine ⟨⟨hs, Pre.refl ρ, fun b u e _ => e, fun b u e => ?_, fun b hb => .inl hb, fun b hb => hb⟩,
    ⟨fun b u e => ?_, by rw [List.length_set]; exact h.len, h.nd, fun m b c' e1 e2 => ?_⟩⟩
  · by_cases hb : b = a
    · exact .inr (.inr (by rw [hb]; exact ha))
    · rw [upd_ne hb] at e; exact .inl e
  · by_cases hb : b = a
    · subst hb
      rw [upd_same] at e
      rw [← e]; exact hH
    · rw [upd_ne hb] at e; exact h.sub b u e
  · by_cases hm : n = m
    · subst hm
      rw [ea] at e1
      cases e1
      rw [List.getElem?_set_self (by rw [← h.len]; exact (List.getElem?_eq_some_iff.mp ea).1)] at e2
      cases e2
      exact hc
    · rw [List.getElem?_set_ne hm] at e2
      have hc' := h.cell m b c' e1 e2
      have hne : b ≠ a := fun z => hm (by
        subst z
        obtain ⟨l1, x1⟩ := List.getElem?_eq_some_iff.mp ea
        obtain ⟨l2, x2⟩ := List.getElem?_eq_some_iff.mp e1
        exact (List.getElem_inj h.nd).mp (x1.trans x2.symm))
      exact hc'.mono hs (Pre.refl ρ) (fun u e => e) fun e => by rw [upd_ne hne]; exact e

/-! ### what is seen of a name now -/
def PK (K : PySem.W.Frag) (F H : Hp) : PV → V → Prop
  | .lst xs, v => ∃ a vs, v = .ref a ∧ H a = some (.lst vs) ∧ RPs K F xs vs
  | .dk kvs, v => ∃ a ks, v = .ref a ∧ H a = some (.dK ks) ∧ RPk K F kvs ks
  | .dt kvs, v => ∃ a ks, v = .ref a ∧ H a = some (.dT ks) ∧ RPt K F kvs ks
  | p, v => RP K F p v
theorem PK.of (s : Sub F H) : ∀ {p : PV} {v : V}, RP K F p v → PK K F H p v
  | .lst xs, v, h => by
    simp only [RP] at h
    obtain ⟨a, vs, e1, e2, e3⟩ := h
    exact ⟨a, vs, e1, s _ _ e2, e3⟩
  | .dk xs, v, h => by
    simp only [RP] at h
    obtain ⟨a, vs, e1, e2, e3⟩ := h
    exact ⟨a, vs, e1, s _ _ e2, e3⟩
  | .dt xs, v, h => by
    simp only [RP] at h
    obtain ⟨a, vs, e1, e2, e3⟩ := h
    exact ⟨a, vs, e1, s _ _ e2, e3⟩
  | .non, _, h => h
  | .bl _, _, h => h
  | .int _, _, h => h
  | .str _, _, h => h
  | .tup _, _, h => h
  | .scr _, _, h => h
theorem peek_ok (h : HR' M K F ρ H st) : ∀ {x : LV} {v : V} {p : PV}, RL K F ρ x v → peek st x = some p → PK K F H p v
  | .pv q, v, p, r, e => by
    simp only [peek, Option.some.injEq] at e
    subst e
    simp only [RL] at r
    exact PK.of h.sub r
  | .ref n, v, p, r, e => by
    simp only [RL] at r
    obtain ⟨a, ev, ea⟩ := r
    obtain ⟨c, ec, hc⟩ := h.at ea
    unfold peek at e
    simp only [ec] at e
    cases c with
    | lst live xs =>
      obtain ⟨vs, h1, h2, _⟩ := hc
      simp only [Option.map_eq_some_iff] at e
      obtain ⟨ps, e1, e2⟩ := e
      subst e2
      rw [unpv_eq e1] at h2
      exact ⟨a, vs, ev, h1, RLs_pv.mp h2⟩
    | dk live xs =>
      obtain ⟨vs, h1, h2, _⟩ := hc
      simp only [Option.map_eq_some_iff] at e
      obtain ⟨ps, e1, e2⟩ := e
      subst e2
      rw [unpvK_eq e1] at h2
      exact ⟨a, vs, ev, h1, RLk_pv.mp h2⟩
    | dt live xs =>
      obtain ⟨vs, h1, h2, _⟩ := hc
      simp only [Option.map_eq_some_iff] at e
      obtain ⟨ps, e1, e2⟩ := e
      subst e2
      rw [unpvK_eq e1] at h2
      exact ⟨a, vs, ev, h1, RLt_pv.mp h2⟩
    | ins C fs => cases e
  | .tup xs, _, _, _, e => by simp [peek] at e
end
end Z
end

section
/-! ZF: readings. -/
namespace Z
open PySem L2
section
variable (M : Nm) (K : PySem.W.Frag) (W : WX)
def PostE (σ : St) (F : Hp) (ρ : List Addr) (H : Hp) (Q : VK) : ER → Prop
  | .ok x st => ∀ F' ρ' H' v, G F ρ H F' ρ' H' → HR' M K F' ρ' H' st → RL K F' ρ' x v → Q v H'
  | .ex e st => ∀ F' ρ' H' cls d, G F ρ H F' ρ' H' → HR' M K F' ρ' H' st → RX M K F' H' e cls d → W cls d σ H'
def PostA (σ : St) (F : Hp) (ρ : List Addr) (H : Hp) (Q : List V → Hp → Prop) : ERs → Prop
  | .ok xs st => ∀ F' ρ' H' vs, G F ρ H F' ρ' H' → HR' M K F' ρ' H' st → RLs K F' ρ' xs vs → Q vs H'
  | .ex e st => ∀ F' ρ' H' cls d, G F ρ H F' ρ' H' → HR' M K F' ρ' H' st → RX M K F' H' e cls d → W cls d σ H'
def PostT (σ : St) (F : Hp) (ρ : List Addr) (H : Hp) (Q : Bool → Hp → Prop) : ET → Prop
  | .ok b st => ∀ F' ρ' H', G F ρ H F' ρ' H' → HR' M K F' ρ' H' st → Q b H'
  | .ex e st => ∀ F' ρ' H' cls d, G F ρ H F' ρ' H' → HR' M K F' ρ' H' st → RX M K F' H' e cls d → W cls d σ H'
def PostS (F : Hp) (ρ : List Addr) (H : Hp) (D : Ends) : FR → Prop
  | .nx φ st => ∀ F' ρ' H' σ', G F ρ H F' ρ' H' → HR' M K F' ρ' H' st → SL K F' ρ' σ' φ → D.nx σ' H'
  | .bk φ st => ∀ F' ρ' H' σ', G F ρ H F' ρ' H' → HR' M K F' ρ' H' st → SL K F' ρ' σ' φ → D.bk σ' H'
  | .ct φ st => ∀ F' ρ' H' σ', G F ρ H F' ρ' H' → HR' M K F' ρ' H' st → SL K F' ρ' σ' φ → D.ct σ' H'
  | .rt x st => ∀ F' ρ' H' v, G F ρ H F' ρ' H' → HR' M K F' ρ' H' st → RL K F' ρ' x v → D.rt v H'
  | .ex e φ st => ∀ F' ρ' H' σ' cls d, G F ρ H F' ρ' H' → HR' M K F' ρ' H' st → SL K F' ρ' σ' φ → RX M K F' H' e cls d → W cls d σ' H'
def RdE (t : TE) (f : Slots → Store → Option ER) : Prop := ∀ σ H Q φ F ρ st r, HR' M K F ρ H st → SL K F ρ σ φ → f φ st = some r → PostE M K W σ F ρ H Q r → t σ H Q
def RdA (t : TA) (f : Slots → Store → Option ERs) : Prop := ∀ σ H Q φ F ρ st r, HR' M K F ρ H st → SL K F ρ σ φ → f φ st = some r → PostA M K W σ F ρ H Q r → t σ H Q
def RdT (t : TT) (f : Slots → Store → Option ET) : Prop := ∀ σ H Q φ F ρ st r, HR' M K F ρ H st → SL K F ρ σ φ → f φ st = some r → PostT M K W σ F ρ H Q r → t σ H Q
def RdS (t : TS) (f : Slots → Store → Option FR) : Prop := ∀ D σ H φ F ρ st r, HR' M K F ρ H st → SL K F ρ σ φ → f φ st = some r → PostS M K W F ρ H D r → t D σ H
/-- an operation on values -/
def RdV2 (r : R2) (g : LV → LV → Store → Option ER) : Prop := ∀ σ H Q F ρ st x y v w res, HR' M K F ρ H st → RL K F ρ x v → RL K F ρ y w → g x y st = some res → PostE M K W σ F ρ H Q res → r v w H Q
def RdV1 (r : V → Hp → VK → Prop) (g : LV → Store → Option ER) : Prop := ∀ σ H Q F ρ st x v res, HR' M K F ρ H st → RL K F ρ x v → g x st = some res → PostE M K W σ F ρ H Q res → r v H Q
def RdVs (r : List V → Hp → VK → Prop) (g : List LV → Store → Option ER) : Prop := ∀ σ H Q F ρ st xs vs res, HR' M K F ρ H st → RLs K F ρ xs vs → g xs st = some res → PostE M K W σ F ρ H Q res → r vs H Q
end
section
variable {M : Nm} {K : PySem.W.Frag} {W : WX} {σ : St} {F F' H H' : Hp} {ρ ρ' : List Addr} {st : Store}
theorem PostE.g {Q : VK} {r : ER} (p : PostE M K W σ F ρ H Q r) (g : G F ρ H F' ρ' H') : PostE M K W σ F' ρ' H' Q r := by
  cases r with
  | ok x st => exact fun F2 ρ2 H2 v g2 h2 r2 => p F2 ρ2 H2 v (g.trans g2) h2 r2
  | ex e st => exact fun F2 ρ2 H2 c d g2 h2 r2 => p F2 ρ2 H2 c d (g.trans g2) h2 r2
theorem PostA.g {Q : List V → Hp → Prop} {r : ERs} (p : PostA M K W σ F ρ H Q r) (g : G F ρ H F' ρ' H') : PostA M K W σ F' ρ' H' Q r := by
  cases r with
  | ok x st => exact fun F2 ρ2 H2 v g2 h2 r2 => p F2 ρ2 H2 v (g.trans g2) h2 r2
  | ex e st => exact fun F2 ρ2 H2 c d g2 h2 r2 => p F2 ρ2 H2 c d (g.trans g2) h2 r2
theorem PostT.g {Q : Bool → Hp → Prop} {r : ET} (p : PostT M K W σ F ρ H Q r) (g : G F ρ H F' ρ' H') : PostT M K W σ F' ρ' H' Q r := by
  cases r with
  | ok x st => exact fun F2 ρ2 H2 g2 h2 => p F2 ρ2 H2 (g.trans g2) h2
  | ex e st => exact fun F2 ρ2 H2 c d g2 h2 r2 => p F2 ρ2 H2 c d (g.trans g2) h2 r2
theorem PostS.g {D : Ends} {r : FR} (p : PostS M K W F ρ H D r) (g : G F ρ H F' ρ' H') : PostS M K W F' ρ' H' D r := by
  cases r with
  | nx φ st => exact fun F2 ρ2 H2 v g2 h2 r2 => p F2 ρ2 H2 v (g.trans g2) h2 r2
  | bk φ st => exact fun F2 ρ2 H2 v g2 h2 r2 => p F2 ρ2 H2 v (g.trans g2) h2 r2
  | ct φ st => exact fun F2 ρ2 H2 v g2 h2 r2 => p F2 ρ2 H2 v (g.trans g2) h2 r2
  | rt φ st => exact fun F2 ρ2 H2 v g2 h2 r2 => p F2 ρ2 H2 v (g.trans g2) h2 r2
  | ex e φ st => exact fun F2 ρ2 H2 v c d g2 h2 r2 x2 => p F2 ρ2 H2 v c d (g.trans g2) h2 r2 x2

/-! ### sequences -/
theorem RdE.bind {t : TE} {f : Slots → Store → Option ER} (h : RdE M K W t f) {φ : Slots} {g : LV → Store → Option ER} {r : ER} {Q U : VK} (hh : HR' M K F ρ H st) (hs : SL K F ρ σ φ) (e : R.bind (f φ st) g = some r) (p : PostE M K W σ F ρ H Q r)
    (k : ∀ x st1 F1 ρ1 H1 v, g x st1 = some r → G F ρ H F1 ρ1 H1 → HR' M K F1 ρ1 H1 st1 → RL K F1 ρ1 x v → PostE M K W σ F1 ρ1 H1 Q r → U v H1) : t σ H U := by
  cases q : f φ st with
  | none => rw [q] at e; cases e
  | some a =>
    rw [q] at e
    cases a with
    | ok x st1 => exact h σ H U φ F ρ st _ hh hs q fun F1 ρ1 H1 v g1 h1 r1 => k x st1 F1 ρ1 H1 v e g1 h1 r1 (p.g g1)
    | ex x st1 =>
      have e' : r = .ex x st1 := (Option.some.inj e).symm
      subst e'
      exact h σ H U φ F ρ st _ hh hs q p
theorem RdE.bindT {t : TE} {f : Slots → Store → Option ER} (h : RdE M K W t f) {φ : Slots} {g : LV → Store → Option ET} {r : ET} {Q : Bool → Hp → Prop} {U : VK} (hh : HR' M K F ρ H st) (hs : SL K F ρ σ φ) (e : R.bt (f φ st) g = some r) (p : PostT M K W σ F ρ H Q r)
    (k : ∀ x st1 F1 ρ1 H1 v, g x st1 = some r → G F ρ H F1 ρ1 H1 → HR' M K F1 ρ1 H1 st1 → RL K F1 ρ1 x v → PostT M K W σ F1 ρ1 H1 Q r → U v H1) : t σ H U := by
  cases q : f φ st with
  | none => rw [q] at e; cases e
  | some a =>
    rw [q] at e
    cases a with
    | ok x st1 => exact h σ H U φ F ρ st _ hh hs q fun F1 ρ1 H1 v g1 h1 r1 => k x st1 F1 ρ1 H1 v e g1 h1 r1 (p.g g1)
    | ex x st1 =>
      have e' : r = .ex x st1 := (Option.some.inj e).symm
      subst e'
      exact h σ H U φ F ρ st _ hh hs q p
theorem RdE.bindA {t : TE} {f : Slots → Store → Option ER} (h : RdE M K W t f) {φ : Slots} {g : LV → Store → Option ERs} {r : ERs} {Q : List V → Hp → Prop} {U : VK} (hh : HR' M K F ρ H st) (hs : SL K F ρ σ φ) (e : R.bs (f φ st) g = some r) (p : PostA M K W σ F ρ H Q r)
    (k : ∀ x st1 F1 ρ1 H1 v, g x st1 = some r → G F ρ H F1 ρ1 H1 → HR' M K F1 ρ1 H1 st1 → RL K F1 ρ1 x v → PostA M K W σ F1 ρ1 H1 Q r → U v H1) : t σ H U := by
  cases q : f φ st with
  | none => rw [q] at e; cases e
  | some a =>
    rw [q] at e
    cases a with
    | ok x st1 => exact h σ H U φ F ρ st _ hh hs q fun F1 ρ1 H1 v g1 h1 r1 => k x st1 F1 ρ1 H1 v e g1 h1 r1 (p.g g1)
    | ex x st1 =>
      have e' : r = .ex x st1 := (Option.some.inj e).symm
      subst e'
      exact h σ H U φ F ρ st _ hh hs q p
theorem RdE.bindS {t : TE} {f : Slots → Store → Option ER} (h : RdE M K W t f) {φ : Slots} {g : LV → Store → Option FR} {r : FR} {D : Ends} {U : VK} (hh : HR' M K F ρ H st) (hs : SL K F ρ σ φ) (e : R.bf φ (f φ st) g = some r) (p : PostS M K W F ρ H D r)
    (k : ∀ x st1 F1 ρ1 H1 v, g x st1 = some r → G F ρ H F1 ρ1 H1 → HR' M K F1 ρ1 H1 st1 → RL K F1 ρ1 x v → PostS M K W F1 ρ1 H1 D r → U v H1) : t σ H U := by
  cases q : f φ st with
  | none => rw [q] at e; cases e
  | some a =>
    rw [q] at e
    cases a with
    | ok x st1 => exact h σ H U φ F ρ st _ hh hs q fun F1 ρ1 H1 v g1 h1 r1 => k x st1 F1 ρ1 H1 v e g1 h1 r1 (p.g g1)
    | ex x st1 =>
      have e' : r = .ex x φ st1 := (Option.some.inj e).symm
      subst e'
      exact h σ H U φ F ρ st _ hh hs q fun F1 ρ1 H1 c d g1 h1 x1 => p F1 ρ1 H1 σ c d g1 h1 (hs.g g1) x1
theorem RdA.bind {t : TA} {f : Slots → Store → Option ERs} (h : RdA M K W t f) {φ : Slots} {g : List LV → Store → Option ER} {r : ER} {Q : VK} {U : List V → Hp → Prop} (hh : HR' M K F ρ H st) (hs : SL K F ρ σ φ) (e : Rs.bind (f φ st) g = some r) (p : PostE M K W σ F ρ H Q r)
    (k : ∀ x st1 F1 ρ1 H1 v, g x st1 = some r → G F ρ H F1 ρ1 H1 → HR' M K F1 ρ1 H1 st1 → RLs K F1 ρ1 x v → PostE M K W σ F1 ρ1 H1 Q r → U v H1) : t σ H U := by
  cases q : f φ st with
  | none => rw [q] at e; cases e
  | some a =>
    rw [q] at e
    cases a with
    | ok x st1 => exact h σ H U φ F ρ st _ hh hs q fun F1 ρ1 H1 v g1 h1 r1 => k x st1 F1 ρ1 H1 v e g1 h1 r1 (p.g g1)
    | ex x st1 =>
      have e' : r = .ex x st1 := (Option.some.inj e).symm
      subst e'
      exact h σ H U φ F ρ st _ hh hs q p
theorem RdA.bindA {t : TA} {f : Slots → Store → Option ERs} (h : RdA M K W t f) {φ : Slots} {g : List LV → Store → Option ERs} {r : ERs} {Q U : List V → Hp → Prop} (hh : HR' M K F ρ H st) (hs : SL K F ρ σ φ) (e : Rs.bs (f φ st) g = some r) (p : PostA M K W σ F ρ H Q r)
    (k : ∀ x st1 F1 ρ1 H1 v, g x st1 = some r → G F ρ H F1 ρ1 H1 → HR' M K F1 ρ1 H1 st1 → RLs K F1 ρ1 x v → PostA M K W σ F1 ρ1 H1 Q r → U v H1) : t σ H U := by
  cases q : f φ st with
  | none => rw [q] at e; cases e
  | some a =>
    rw [q] at e
    cases a with
    | ok x st1 => exact h σ H U φ F ρ st _ hh hs q fun F1 ρ1 H1 v g1 h1 r1 => k x st1 F1 ρ1 H1 v e g1 h1 r1 (p.g g1)
    | ex x st1 =>
      have e' : r = .ex x st1 := (Option.some.inj e).symm
      subst e'
      exact h σ H U φ F ρ st _ hh hs q p
theorem RdA.bindS {t : TA} {f : Slots → Store → Option ERs} (h : RdA M K W t f) {φ : Slots} {g : List LV → Store → Option FR} {r : FR} {D : Ends} {U : List V → Hp → Prop} (hh : HR' M K F ρ H st) (hs : SL K F ρ σ φ) (e : Rs.bf φ (f φ st) g = some r) (p : PostS M K W F ρ H D r)
    (k : ∀ x st1 F1 ρ1 H1 v, g x st1 = some r → G F ρ H F1 ρ1 H1 → HR' M K F1 ρ1 H1 st1 → RLs K F1 ρ1 x v → PostS M K W F1 ρ1 H1 D r → U v H1) : t σ H U := by
  cases q : f φ st with
  | none => rw [q] at e; cases e
  | some a =>
    rw [q] at e
    cases a with
    | ok x st1 => exact h σ H U φ F ρ st _ hh hs q fun F1 ρ1 H1 v g1 h1 r1 => k x st1 F1 ρ1 H1 v e g1 h1 r1 (p.g g1)
    | ex x st1 =>
      have e' : r = .ex x φ st1 := (Option.some.inj e).symm
      subst e'
      exact h σ H U φ F ρ st _ hh hs q fun F1 ρ1 H1 c d g1 h1 x1 => p F1 ρ1 H1 σ c d g1 h1 (hs.g g1) x1
theorem RdT.bind {t : TT} {f : Slots → Store → Option ET} (h : RdT M K W t f) {φ : Slots} {g : Bool → Store → Option ER} {r : ER} {Q : VK} {U : Bool → Hp → Prop} (hh : HR' M K F ρ H st) (hs : SL K F ρ σ φ) (e : T.bind (f φ st) g = some r) (p : PostE M K W σ F ρ H Q r)
    (k : ∀ x st1 F1 ρ1 H1, g x st1 = some r → G F ρ H F1 ρ1 H1 → HR' M K F1 ρ1 H1 st1 → PostE M K W σ F1 ρ1 H1 Q r → U x H1) : t σ H U := by
  cases q : f φ st with
  | none => rw [q] at e; cases e
  | some a =>
    rw [q] at e
    cases a with
    | ok x st1 => exact h σ H U φ F ρ st _ hh hs q fun F1 ρ1 H1 g1 h1 => k x st1 F1 ρ1 H1 e g1 h1 (p.g g1)
    | ex x st1 =>
      have e' : r = .ex x st1 := (Option.some.inj e).symm
      subst e'
      exact h σ H U φ F ρ st _ hh hs q p
theorem RdT.bindT {t : TT} {f : Slots → Store → Option ET} (h : RdT M K W t f) {φ : Slots} {g : Bool → Store → Option ET} {r : ET} {Q U : Bool → Hp → Prop} (hh : HR' M K F ρ H st) (hs : SL K F ρ σ φ) (e : T.bt (f φ st) g = some r) (p : PostT M K W σ F ρ H Q r)
    (k : ∀ x st1 F1 ρ1 H1, g x st1 = some r → G F ρ H F1 ρ1 H1 → HR' M K F1 ρ1 H1 st1 → PostT M K W σ F1 ρ1 H1 Q r → U x H1) : t σ H U := by
  cases q : f φ st with
  | none => rw [q] at e; cases e
  | some a =>
    rw [q] at e
    cases a with
    | ok x st1 => exact h σ H U φ F ρ st _ hh hs q fun F1 ρ1 H1 g1 h1 => k x st1 F1 ρ1 H1 e g1 h1 (p.g g1)
    | ex x st1 =>
      have e' : r = .ex x st1 := (Option.some.inj e).symm
      subst e'
      exact h σ H U φ F ρ st _ hh hs q p
theorem RdT.bindS {t : TT} {f : Slots → Store → Option ET} (h : RdT M K W t f) {φ : Slots} {g : Bool → Store → Option FR} {r : FR} {D : Ends} {U : Bool → Hp → Prop} (hh : HR' M K F ρ H st) (hs : SL K F ρ σ φ) (e : T.bf φ (f φ st) g = some r) (p : PostS M K W F ρ H D r)
    (k : ∀ x st1 F1 ρ1 H1, g x st1 = some r → G F ρ H F1 ρ1 H1 → HR' M K F1 ρ1 H1 st1 → PostS M K W F1 ρ1 H1 D r → U x H1) : t σ H U := by
  cases q : f φ st with
  | none => rw [q] at e; cases e
  | some a =>
    rw [q] at e
    cases a with
    | ok x st1 => exact h σ H U φ F ρ st _ hh hs q fun F1 ρ1 H1 g1 h1 => k x st1 F1 ρ1 H1 e g1 h1 (p.g g1)
    | ex x st1 =>
      have e' : r = .ex x φ st1 := (Option.some.inj e).symm
      subst e'
      exact h σ H U φ F ρ st _ hh hs q fun F1 ρ1 H1 c d g1 h1 x1 => p F1 ρ1 H1 σ c d g1 h1 (hs.g g1) x1
/-- a tree comes -/
theorem PostE.tree {Q : VK} {p : PV} {v : V} (q : PostE M K W σ F ρ H Q (.ok (.pv p) st)) (hh : HR' M K F ρ H st) (r : RP K F p v) : Q v H := q F ρ H v (G.refl F ρ H) hh (by simp only [RL]; exact r)
theorem PostE.here {Q : VK} {x : LV} {v : V} (q : PostE M K W σ F ρ H Q (.ok x st)) (hh : HR' M K F ρ H st) (r : RL K F ρ x v) : Q v H := q F ρ H v (G.refl F ρ H) hh r

theorem rd_op {ta tb : TE} {fa fb : Slots → Store → Option ER} {r : R2} {g : LV → LV → Store → Option ER} (ha : RdE M K W ta fa) (hb : RdE M K W tb fb) (hr : RdV2 M K W r g) :
    RdE M K W (tOp r ta tb) fun φ st => R.bind (fa φ st) fun x st => R.bind (fb φ st) fun y st => g x y st := by
  intro σ H Q φ F ρ st res hh hs e p
  refine ha.bind hh hs e p fun x st1 F1 ρ1 H1 v e1 g1 h1 r1 p1 => ?_
  refine hb.bind h1 (hs.g g1) e1 p1 fun y st2 F2 ρ2 H2 w e2 g2 h2 r2 p2 => ?_
  exact hr σ H2 Q F2 ρ2 st2 x y v w res h2 (RL.mono g2.sub g2.pre x v r1) r2 e2 p2
end
end Z
end

section
/-! ZG: the operators' rules of the layer, joined, and their readings. -/
namespace Z
open PySem PySem.Spec PyProof.Rows L2
theorem line_eq : sizeLine = line := by rw [sizeLine_eq]; rfl
/-! ### trees as data -/
mutual
def toD : PV → PyData
  | .non => .none
  | .bl b => .bool b
  | .int i => .int i
  | .str s => .str (mkS s)
  | .tup xs => .tuple (toDs xs)
  | .lst xs => .list (toDs xs)
  | _ => .none
def toDs : List PV → List PyData
  | [] => []
  | x :: xs => toD x :: toDs xs
end
section
variable {K : PySem.W.Frag} {F H : Hp}
mutual
theorem RP.dp (s : Sub F H) : ∀ (p : PV) (v : V), RP K F p v → eqOk p = true → Dp K H v (toD p) ∧ (toD p).canLay0 = true
  | .non, v, h, _ => by
    simp only [RP] at h; subst h
    exact ⟨by simp only [toD]; exact .non, by simp [toD, PyData.canLay0]⟩
  | .bl b, v, h, _ => by
    simp only [RP] at h; subst h
    exact ⟨by simp only [toD]; exact .bl b, by simp [toD, PyData.canLay0]⟩
  | .int i, v, h, _ => by
    simp only [RP] at h; subst h
    exact ⟨by simp only [toD]; exact .int i, by simp [toD, PyData.canLay0]⟩
  | .str x, v, h, _ => by
    simp only [RP] at h
    obtain ⟨h1, h2⟩ := h
    subst h1
    refine ⟨by simp only [toD]; exact .str _, ?_⟩
    simp only [toD, PyData.canLay0, PyData.strOk, mkS]
    simpa [okS] using h2
  | .tup xs, v, h, e => by
    simp only [RP] at h
    obtain ⟨a, vs, e1, e2, e3⟩ := h
    subst e1
    have q := RPs.dp s xs vs e3 (by simpa [eqOk] using e)
    exact ⟨by simp only [toD]; exact .tup (.inl (.inl (s _ _ e2))) q.1, by simp only [toD, PyData.canLay0]; exact q.2⟩
  | .lst xs, v, h, e => by
    simp only [RP] at h
    obtain ⟨a, vs, e1, e2, e3⟩ := h
    subst e1
    have q := RPs.dp s xs vs e3 (by simpa [eqOk] using e)
    exact ⟨by simp only [toD]; exact .lst (.inl (.inl (s _ _ e2))) q.1, by simp only [toD, PyData.canLay0]; exact q.2⟩
  | .dk _, _, _, e => by simp [eqOk] at e
  | .dt _, _, _, e => by simp [eqOk] at e
  | .scr _, _, _, e => by simp [eqOk] at e
theorem RPs.dp (s : Sub F H) : ∀ (ps : List PV) (vs : List V), RPs K F ps vs → eqOks ps = true → DpAll K H vs (toDs ps) ∧ PyData.canLayAll0 (toDs ps) = true
  | [], vs, h, _ => by
    simp only [RPs] at h; subst h
    exact ⟨by simp only [toDs]; exact .nil, by simp [toDs, PyData.canLayAll0]⟩
  | x :: xs, vs, h, e => by
    simp only [RPs] at h
    obtain ⟨v, r, e1, e2, e3⟩ := h
    subst e1
    simp only [eqOks, Bool.and_eq_true] at e
    have q1 := RP.dp s x v e2 e.1
    have q2 := RPs.dp s xs r e3 e.2
    exact ⟨by simp only [toDs]; exact .cons q1.1 q2.1, by simp only [toDs, PyData.canLayAll0, q1.2, q2.2, Bool.and_self]⟩
end
theorem PK.dp (s : Sub F H) {p : PV} {v : V} (h : PK K F H p v) (e : eqOk p = true) : Dp K H v (toD p) ∧ (toD p).canLay0 = true := by
  cases p with
  | lst xs =>
    obtain ⟨a, vs, e1, e2, e3⟩ := h
    subst e1
    have q := RPs.dp s xs vs e3 (by simpa [eqOk] using e)
    exact ⟨by simp only [toD]; exact .lst (.inl (.inl e2)) q.1, by simp only [toD, PyData.canLay0]; exact q.2⟩
  | dk _ => simp [eqOk] at e
  | dt _ => simp [eqOk] at e
  | scr _ => simp [eqOk] at e
  | non => exact RP.dp s _ _ h e
  | bl _ => exact RP.dp s _ _ h e
  | int _ => exact RP.dp s _ _ h e
  | str _ => exact RP.dp s _ _ h e
  | tup _ => exact RP.dp s _ _ h e
end
mutual
theorem depth_toD : ∀ p : PV, (toD p).depth = dep p
  | .non => by simp [toD, PyData.depth, dep]
  | .bl b => by simp [toD, PyData.depth, dep]
  | .int i => by simp [toD, PyData.depth, dep]
  | .str s => by simp [toD, PyData.depth, dep]
  | .tup xs => by simp only [toD, PyData.depth, dep, depth_toDs xs]; omega
  | .lst xs => by simp only [toD, PyData.depth, dep, depth_toDs xs]; omega
  | .dk _ => by simp [toD, PyData.depth, dep]
  | .dt _ => by simp [toD, PyData.depth, dep]
  | .scr _ => by simp [toD, PyData.depth, dep]
theorem depth_toDs : ∀ ps : List PV, PyData.depthAll (toDs ps) = deps ps
  | [] => by simp [toDs, PyData.depthAll, deps]
  | x :: xs => by simp only [toDs, PyData.depthAll, deps, depth_toD x, depth_toDs xs]
end
theorem mkS_beq (a b : Sg) : (mkS a == mkS b) = (a == b) := by
  by_cases h : a = b
  · subst h; simp
  · have : mkS a ≠ mkS b := fun e => h (mkS_inj e)
    rw [beq_eq_false_iff_ne.mpr h, beq_eq_false_iff_ne.mpr this]
mutual
theorem eqv_toD : ∀ p q : PV, eqOk p = true → eqOk q = true → PyData.eqv (toD p) (toD q) = eqP p q
  | .non, q, _, h => by cases q <;> simp [eqOk] at h <;> simp [toD, PyData.eqv, eqP]
  | .bl b, q, _, h => by cases q <;> simp [eqOk] at h <;> simp [toD, PyData.eqv, eqP]
  | .int i, q, _, h => by cases q <;> simp [eqOk] at h <;> simp [toD, PyData.eqv, eqP]
  | .str s, q, _, h => by cases q <;> simp [eqOk] at h <;> simp [toD, PyData.eqv, eqP, mkS_beq]
  | .tup xs, q, h0, h => by
    cases q <;> simp [eqOk] at h <;> simp only [toD, PyData.eqv, eqP]
    exact eqv_toDs xs _ (by simpa [eqOk] using h0) h
  | .lst xs, q, h0, h => by
    cases q <;> simp [eqOk] at h <;> simp only [toD, PyData.eqv, eqP]
    exact eqv_toDs xs _ (by simpa [eqOk] using h0) h
  | .dk _, _, h, _ => by simp [eqOk] at h
  | .dt _, _, h, _ => by simp [eqOk] at h
  | .scr _, _, h, _ => by simp [eqOk] at h
theorem eqv_toDs : ∀ ps qs : List PV, eqOks ps = true → eqOks qs = true → PyData.eqvAll (toDs ps) (toDs qs) = eqPs ps qs
  | [], [], _, _ => by simp [toDs, PyData.eqvAll, eqPs]
  | [], _ :: _, _, _ => by simp [toDs, PyData.eqvAll, eqPs]
  | _ :: _, [], _, _ => by simp [toDs, PyData.eqvAll, eqPs]
  | x :: xs, y :: ys, h, h' => by
    simp only [eqOks, Bool.and_eq_true] at h h'
    simp only [toDs, PyData.eqvAll, eqPs, eqv_toD x y h.1 h'.1, eqv_toDs xs ys h.2 h'.2]
end

/-! ### the layer's rules, joined -/
section
variable {X : Cx}
abbrev room2 (X : Cx) : Prop := X.A.units + 2100 < cLine
def rEqZ (K : PySem.W.Frag) (neg : Bool) : R2 := fun x y H Q => ∃ d e, Dp K H x d ∧ Dp K H y e ∧ d.canLay0 = true ∧ e.canLay0 = true ∧ min d.depth e.depth ≤ maxDep ∧ Q (.bl (neg ^^ PyData.eqv d e)) H
theorem op_eqZ (hu : room2 X) : OpR X (compareOp .Eq) (rEqZ X.K false) := by
  intro pins s σ H x y v u Q I rx ry h
  obtain ⟨d, e, hd, he, sd, se, hm, q⟩ := h
  obtain ⟨as, r1⟩ := Dp.reads I d x v hd rx
  obtain ⟨bs, r2⟩ := Dp.reads I e y u he ry
  have hu' : X.A.units + min d.depth e.depth < cLine := by
    have h1 : X.A.units + 2100 < cLine := hu
    have h2 : maxDep = 2000 := rfl
    omega
  exact SeqAt.compareEq_reads r1 r2 sd se hu' ⟨.bl _, H, I, by simp [L2.RelV], q⟩
theorem op_neZ (hu : room2 X) : OpR X (compareOp .NotEq) (rEqZ X.K true) := by
  intro pins s σ H x y v u Q I rx ry h
  obtain ⟨d, e, hd, he, sd, se, hm, q⟩ := h
  obtain ⟨as, r1⟩ := Dp.reads I d x v hd rx
  obtain ⟨bs, r2⟩ := Dp.reads I e y u he ry
  have hu' : X.A.units + min d.depth e.depth < cLine := by
    have h1 : X.A.units + 2100 < cLine := hu
    have h2 : maxDep = 2000 := rfl
    omega
  exact SeqAt.compareNe_reads r1 r2 sd se hu' ⟨.bl _, H, I, by simp [L2.RelV], q⟩
theorem op_inD (hu : room2 X) : OpR X (compareOp .In) (fun y x H Q => ∃ a o, x = .ref a ∧ DGet H a y o ∧ Q (.bl o.isSome) H) := by
  intro pins s σ H y x v u Q I ry rx h
  obtain ⟨a, o, ex, g, q⟩ := h
  subst ex
  obtain rfl : u = Value.ref a := rx
  exact d_in (by have h1 : X.A.units + 2100 < cLine := hu; omega) I g ry fun s3 I3 => ⟨.bl o.isSome, H, I3, rfl, q⟩
theorem op_ninD (hu : room2 X) : OpR X (compareOp .NotIn) (fun y x H Q => ∃ a o, x = .ref a ∧ DGet H a y o ∧ Q (.bl (!o.isSome)) H) := by
  intro pins s σ H y x v u Q I ry rx h
  obtain ⟨a, o, ex, g, q⟩ := h
  subst ex
  obtain rfl : u = Value.ref a := rx
  exact d_notIn (by have h1 : X.A.units + 2100 < cLine := hu; omega) I g ry fun s3 I3 => ⟨.bl (!o.isSome), H, I3, rfl, q⟩
theorem ix_dict (hu : room2 X) : IxR X (fun x y H Q => ∃ a v, x = .ref a ∧ DGet H a y (some v) ∧ Q v H) := by
  intro value slice pins s σ H x y v u Q I rx ry h hs
  obtain ⟨a, z, ex, g, q⟩ := h
  subst ex
  obtain rfl : v = Value.ref a := rx
  have hT := dict_typeIs I g
  have h₂ : wpAny (model X.prog X.w) X.A (getItem (.ref a) u) (EP X pins σ Q) X.xe s := d_getItem (by have h1 : X.A.units + 2100 < cLine := hu; omega) I g ry fun w' s3 I3 rw' => ⟨z, H, I3, rw', q⟩
  unfold subscriptTail
  refine wpAny_bind ?_
  rw [getitemInPython_of_ne hT.not_modules]
  refine wpAny_bind (wpAny_specialOf hT PySem.F.slot_dict_getitem.lookup ?_)
  have fin : wpAny (model X.prog X.w) X.A (subscripted slice false (.ref a) u) (fun r s₃ => wpAny (model X.prog X.w) X.A (letTemporaryGo value (.ref a) r >>= fun _ => pure r) (EP X pins σ Q) X.xe s₃) X.xe s := by
    rw [hs]
    exact wpAny_operating (wpAny_mono h₂ (fun r s₃ h₃ => wpAny_bind (wpAny_letTemporaryGo (wpAny_pure h₃))) fun _ _ x => x)
  first
    | exact wpAny_pure (wpAny_bind fin)
    | exact wpAny_bind (wpAny_pure (wpAny_bind fin))
    | exact wpAny_bind fin
def rIxD : R2 := fun x y H Q => ∃ a v, x = .ref a ∧ DGet H a y (some v) ∧ Q v H
def rIxZ (K : PySem.W.Frag) : R2 := fun x y H Q => rIxL K x y H Q ∨ rIxT K x y H Q ∨ rIxS x y H Q ∨ rIxD x y H Q
theorem ix_Z (hu : room2 X) : IxR X (rIxZ X.K) := ix_list.or (ix_tup.or (ix_str.or (ix_dict hu)))

def rStrCat : R2 := fun x y H Q => ∃ i j, x = .str i ∧ y = .str j ∧ i.length + j.length ≤ sizeLine ∧ Q (.str (i ++ j)) H
def opB : BO → Operator
  | .add => .Add | .sub => .Sub | .mul => .Mult | .fdiv => .FloorDiv | .mod => .Mod | .pow => .Pow
def rBin : BO → R2
  | .add => fun x y H Q => rI0 (fun i j => .int (i + j)) x y H Q ∨ rStrCat x y H Q ∨ rCat x y H Q
  | .sub => rI0 fun i j => .int (i - j)
  | .mul => rI CMul fun i j => .int (i * j)
  | .fdiv => rI CDiv fun i j => .int (i / j)
  | .mod => rI (fun _ j => 0 < j) fun i j => .int (i % j)
  | .pow => rI CPow fun i j => .int (i ^ j.toNat)
theorem op_bin : ∀ b : BO, OpR X (binaryOp (opB b)) (rBin b)
  | .add => op_add.or (op_add_str.or op_cat)
  | .sub => op_sub
  | .mul => op_mul
  | .fdiv => op_fdiv
  | .mod => op_mod
  | .pow => op_pow
def rAug : BO → R2
  | .add => fun x y H Q => rI0 (fun i j => .int (i + j)) x y H Q ∨ rStrCat x y H Q
  | .sub => rI0 fun i j => .int (i - j)
  | .mul => rI CMul fun i j => .int (i * j)
  | .fdiv => rI CDiv fun i j => .int (i / j)
  | .mod => rI (fun _ j => 0 < j) fun i j => .int (i % j)
  | .pow => fun _ _ _ _ => False
theorem op_aug : ∀ b : BO, OpR X (inplaceOp (opB b)) (rAug b)
  | .add => iop_add.or iop_add_str
  | .sub => iop_sub
  | .mul => iop_mul
  | .fdiv => iop_fdiv
  | .mod => iop_mod
  | .pow => fun _ _ _ _ _ _ _ _ _ _ _ _ h => h.elim
def opC : CO → CmpOp
  | .eq => .Eq | .ne => .NotEq | .lt => .Lt | .le => .LtE | .gt => .Gt | .ge => .GtE | .in_ => .In | .nin => .NotIn
def rCmp (K : PySem.W.Frag) : CO → R2
  | .eq => rEqZ K false
  | .ne => rEqZ K true
  | .lt => rI0 fun i j => .bl (decide (i < j))
  | .le => rI0 fun i j => .bl (decide (i ≤ j))
  | .gt => rI0 fun i j => .bl (decide (j < i))
  | .ge => rI0 fun i j => .bl (decide (j ≤ i))
  | .in_ => fun x y H Q => rIn K false x y H Q ∨ ∃ a o, y = .ref a ∧ DGet H a x o ∧ Q (.bl o.isSome) H
  | .nin => fun x y H Q => rIn K true x y H Q ∨ ∃ a o, y = .ref a ∧ DGet H a x o ∧ Q (.bl (!o.isSome)) H
theorem op_cmp (hu : room2 X) : ∀ c : CO, OpR X (compareOp (opC c)) (rCmp X.K c)
  | .eq => op_eqZ hu
  | .ne => op_neZ hu
  | .lt => op_lt
  | .le => op_le
  | .gt => op_gt
  | .ge => op_ge
  | .in_ => op_in_seq.or (op_inD hu)
  | .nin => op_notIn_seq.or (op_ninD hu)
end
end Z
end

section
/-! ZH: the readings of operators, subscripts, truth. -/
namespace Z
open PySem PySem.Spec PyProof.Rows L2
section
variable {M : Nm} {K : PySem.W.Frag} {W : WX} {σ : L2.St} {F F' H H' : Hp} {ρ ρ' : List Addr} {st : Store}
theorem PK.int {i : Int} {v : V} (h : PK K F H (.int i) v) : v = .int i := by
  have h' : RP K F (.int i) v := h
  simpa only [RP] using h'
theorem PK.str {s : Sg} {v : V} (h : PK K F H (.str s) v) : v = .str (mkS s) ∧ okS s = true := by
  have h' : RP K F (.str s) v := h
  simpa only [RP] using h'
theorem okS_append {a b : Sg} (h : okS a = true) (h' : okS b = true) : okS (a ++ b) = true := by
  simp only [okS, List.all_append, Bool.and_eq_true] at *
  exact ⟨h, h'⟩
theorem mkS_append (a b : Sg) : mkS (a ++ b) = mkS a ++ mkS b := by
  show (⟨(a ++ b).toArray⟩ : Str) = ⟨a.toArray ++ b.toArray⟩
  rw [List.append_toArray]
theorem mulOk_ok {i j : Int} (h : mulOk i j = true) : CMul i j := by
  simp only [mulOk, Bool.or_eq_true, Bool.and_eq_true, decide_eq_true_eq] at h
  exact h
theorem divOk_ok {i j : Int} (h : divOk j = true) : CDiv i j := by
  simp only [divOk, Bool.and_eq_true, decide_eq_true_eq] at h
  exact h
theorem powOk_ok {i j : Int} (h : powOk i j = true) : CPow i j := by
  simp only [powOk, Bool.and_eq_true, decide_eq_true_eq] at h
  exact ⟨h.1.1, h.1.2, h.2⟩
/-- a tree comes, made in a new object -/
theorem PostE.made {Q : VK} {p : PV} {o : HO} {a : Addr} (q : PostE M K W σ F ρ H Q (.ok (.pv p) st)) (hh : HR' M K F ρ H st) (na : H a = none) (r : RP K (upd F a o) p (.ref a)) : Q (.ref a) (upd H a o) := by
  obtain ⟨g, h⟩ := hh.new na o
  exact q _ _ _ _ g h (by simp only [RL]; exact r)
theorem rd_binP {op : BO} {p q z : PV} {v w : V} {Q : VK} (hh : HR' M K F ρ H st) (hp : PK K F H p v) (hq : PK K F H q w) (e : doBin op p q = some z) (post : PostE M K W σ F ρ H Q (.ok (.pv z) st)) : rBin op v w H Q := by
  cases op <;> cases p <;> simp only [doBin, reduceCtorEq] at e <;> cases q <;> simp only [doBin, Option.some.injEq, reduceCtorEq] at e
  case add.int.int i j =>
    subst e
    exact .inl ⟨i, j, hp.int, hq.int, post.tree hh (by simp only [RP])⟩
  case add.str.str x y =>
    split at e
    · rename_i hl
      simp only [Option.some.injEq] at e
      subst e
      refine .inr (.inl ⟨mkS x, mkS y, hp.str.1, hq.str.1, by rw [mkS_len, mkS_len, line_eq]; exact hl, post.tree hh ?_⟩)
      simp only [RP]
      exact ⟨by rw [mkS_append], okS_append hp.str.2 hq.str.2⟩
    · cases e
  case add.lst.lst xs ys =>
    split at e
    · rename_i hl
      simp only [Option.some.injEq] at e
      subst e
      obtain ⟨a, vs, ea, ha, ra⟩ := hp
      obtain ⟨b, ws, eb, hb, rb⟩ := hq
      refine .inr (.inr ⟨a, b, vs, ws, ea, eb, ha, hb, by rw [← ra.length, ← rb.length, line_eq]; exact hl, fun p np => ?_⟩)
      refine post.made hh np ?_
      simp only [RP]
      exact ⟨p, vs ++ ws, rfl, upd_same, RPs.mono (sub_upd (hh.fresh np)) _ _ (ra.append rb)⟩
    · cases e
  case sub.int.int i j =>
    subst e
    exact ⟨i, j, hp.int, hq.int, post.tree hh (by simp only [RP])⟩
  case mul.int.int i j =>
    split at e
    · rename_i hl
      simp only [Option.some.injEq] at e
      subst e
      exact ⟨i, j, hp.int, hq.int, mulOk_ok hl, post.tree hh (by simp only [RP])⟩
    · cases e
  case fdiv.int.int i j =>
    split at e
    · rename_i hl
      simp only [Option.some.injEq] at e
      subst e
      exact ⟨i, j, hp.int, hq.int, divOk_ok hl, post.tree hh (by simp only [RP])⟩
    · cases e
  case mod.int.int i j =>
    split at e
    · rename_i hl
      simp only [Option.some.injEq] at e
      subst e
      exact ⟨i, j, hp.int, hq.int, hl, post.tree hh (by simp only [RP])⟩
    · cases e
  case pow.int.int i j =>
    split at e
    · rename_i hl
      simp only [Option.some.injEq] at e
      subst e
      exact ⟨i, j, hp.int, hq.int, powOk_ok hl, post.tree hh (by simp only [RP])⟩
    · cases e
theorem rd_bin (op : BO) : RdV2 M K W (rBin op) (bin op) := by
  intro σ H Q F ρ st x y v w res hh rx ry e p
  unfold bin at e
  cases ex : peek st x with
  | none => simp [ex] at e
  | some a =>
    cases ey : peek st y with
    | none => simp [ex, ey] at e
    | some b =>
      simp only [ex, ey] at e
      cases eb : doBin op a b with
      | none => simp [eb, okP] at e
      | some z =>
        simp only [eb, okP, Option.some.injEq] at e
        subst e
        exact rd_binP hh (peek_ok hh rx ex) (peek_ok hh ry ey) eb p

/-! ### flat things -/
theorem flat_ok {p : PV} {v : V} (f : flat p = true) (h : PK K F H p v) : flatV v = true := by
  cases p <;> simp [flat] at f <;> (simp only [PK, RP] at h) <;> first | (subst h; rfl) | (obtain ⟨h, _⟩ := h; subst h; rfl)
theorem flat_eq {p q : PV} {v w : V} (f : flat p = true) (f' : flat q = true) (h : PK K F H p v) (h' : PK K F H q w) : eqV v w = eqP p q := by
  cases p <;> simp [flat] at f <;> cases q <;> simp [flat] at f' <;> simp only [PK, RP] at h h' <;>
    first
      | (subst h h'; simp [eqV, eqP])
      | (obtain ⟨h, _⟩ := h; obtain ⟨h', _⟩ := h'; subst h h'; simp [eqV, eqP, mkS_beq])
      | (obtain ⟨h, _⟩ := h; subst h h'; simp [eqV, eqP])
      | (obtain ⟨h', _⟩ := h'; subst h h'; simp [eqV, eqP])
theorem flats_ok : ∀ {ps : List PV} {vs : List V}, (ps.all flat) = true → RPs K F ps vs → vs.all flatV = true
  | [], vs, _, h => by simp only [RPs] at h; subst h; rfl
  | x :: xs, vs, f, h => by
    simp only [RPs] at h
    obtain ⟨v, r, e1, e2, e3⟩ := h
    subst e1
    simp only [List.all_cons, Bool.and_eq_true] at f ⊢
    exact ⟨flat_ok (H := F) f.1 (PK.of (Sub.refl F) e2), flats_ok f.2 e3⟩
theorem inV_ok {x : PV} {v : V} (fx : flat x = true) (hx : PK K F H x v) (s : Sub F H) : ∀ {ps : List PV} {vs : List V}, (ps.all flat) = true → RPs K F ps vs → inV v vs = ps.any fun y => eqP y x
  | [], vs, _, h => by simp only [RPs] at h; subst h; rfl
  | y :: xs, vs, f, h => by
    simp only [RPs] at h
    obtain ⟨w, r, e1, e2, e3⟩ := h
    subst e1
    simp only [List.all_cons, Bool.and_eq_true] at f
    have ih := inV_ok fx hx s f.2 e3
    unfold inV at ih ⊢
    rw [List.any_cons, List.any_cons, ih, flat_eq f.1 fx (PK.of s e2) hx]
theorem RPs.any_sq (s : Sub F H) {p : PV} {v : V} {xs : List PV} (hp : p = .lst xs ∨ p = .tup xs) (h : PK K F H p v) : ∃ a vs, v = .ref a ∧ (SqL K H a vs ∨ SqT K H a vs) ∧ RPs K F xs vs := by
  rcases hp with e | e
  · subst e
    obtain ⟨a, vs, e1, e2, e3⟩ := h
    exact ⟨a, vs, e1, .inl (.inl (.inl e2)), e3⟩
  · subst e
    simp only [PK, RP] at h
    obtain ⟨a, vs, e1, e2, e3⟩ := h
    exact ⟨a, vs, e1, .inr (.inl (.inl (s _ _ e2))), e3⟩

/-! ### keys -/
theorem kV_of {p : PV} {k : Ky} {v : V} (e : keyK p = some k) (h : PK K F H p v) : v = kV (kyS k) ∧ okK k = true := by
  cases p <;> simp [keyK] at e
  · subst e
    exact ⟨h.int, rfl⟩
  · subst e
    exact ⟨h.str.1, h.str.2⟩
theorem kVs_of : ∀ {ps : List PV} {ks : List Ky} {vs : List V}, keyKs ps = some ks → RPs K F ps vs → vs = (ks.map kyS).map kV ∧ ks.all okK = true
  | [], ks, vs, e, h => by
    simp [keyKs] at e; subst e
    simp only [RPs] at h; subst h
    exact ⟨rfl, rfl⟩
  | x :: xs, ks, vs, e, h => by
    simp only [RPs] at h
    obtain ⟨v, r, e1, e2, e3⟩ := h
    subst e1
    unfold keyKs at e
    cases q : keyK x with
    | none => simp [q] at e
    | some k =>
      simp only [q, Option.map_eq_some_iff] at e
      obtain ⟨ks', e4, e5⟩ := e
      subst e5
      obtain ⟨h1, h2⟩ := kV_of (H := F) q (PK.of (Sub.refl F) e2)
      obtain ⟨h3, h4⟩ := kVs_of e4 e3
      exact ⟨by rw [h1, h3]; rfl, by simp [h2, h4]⟩
theorem valV_k : ∀ {kvs : List (Ky × PV)} {ks : List (Key × V)} (k : Ky), RPk K F kvs ks → (look k kvs = none ∧ valV ks (kyS k) = none) ∨ ∃ p v, look k kvs = some p ∧ valV ks (kyS k) = some v ∧ RP K F p v
  | [], ks, k, h => by simp only [RPk] at h; subst h; exact .inl ⟨rfl, rfl⟩
  | (j, p) :: r, ks, k, h => by
    simp only [RPk] at h
    obtain ⟨v, s, e1, e2, e3, e4⟩ := h
    subst e1
    by_cases hj : j = k
    · subst hj
      exact .inr ⟨p, v, by simp [look], valV_pos rfl, e3⟩
    · have hn : ¬ kyS j = kyS k := fun e => hj (kyS_inj e)
      rw [valV_neg (p := (kyS j, v)) hn]
      simp only [look, if_neg hj]
      exact valV_k k e4
theorem valV_t : ∀ {kvs : List (List Ky × PV)} {ks : List (List Key × V)} (k : List Ky), RPt K F kvs ks → (look k kvs = none ∧ valV ks (k.map kyS) = none) ∨ ∃ p v, look k kvs = some p ∧ valV ks (k.map kyS) = some v ∧ RP K F p v
  | [], ks, k, h => by simp only [RPt] at h; subst h; exact .inl ⟨rfl, rfl⟩
  | (j, p) :: r, ks, k, h => by
    simp only [RPt] at h
    obtain ⟨v, s, e1, e2, e3, e4⟩ := h
    subst e1
    by_cases hj : j = k
    · subst hj
      exact .inr ⟨p, v, by simp [look], valV_pos rfl, e3⟩
    · have hn : ¬ j.map kyS = k.map kyS := fun e => hj (kySs_inj e)
      rw [valV_neg (p := (j.map kyS, v)) hn]
      simp only [look, if_neg hj]
      exact valV_t k e4
theorem valV_kL : ∀ {kvs : List (Ky × LV)} {ks : List (Key × V)} (k : Ky), RLk K F ρ kvs ks → (look k kvs = none ∧ valV ks (kyS k) = none) ∨ ∃ p v, look k kvs = some p ∧ valV ks (kyS k) = some v ∧ RL K F ρ p v
  | [], ks, k, h => by simp only [RLk] at h; subst h; exact .inl ⟨rfl, rfl⟩
  | (j, p) :: r, ks, k, h => by
    simp only [RLk] at h
    obtain ⟨v, s, e1, e2, e3, e4⟩ := h
    subst e1
    by_cases hj : j = k
    · subst hj
      exact .inr ⟨p, v, by simp [look], valV_pos rfl, e3⟩
    · have hn : ¬ kyS j = kyS k := fun e => hj (kyS_inj e)
      rw [valV_neg (p := (kyS j, v)) hn]
      simp only [look, if_neg hj]
      exact valV_kL k e4
theorem valV_tL : ∀ {kvs : List (List Ky × LV)} {ks : List (List Key × V)} (k : List Ky), RLt K F ρ kvs ks → (look k kvs = none ∧ valV ks (k.map kyS) = none) ∨ ∃ p v, look k kvs = some p ∧ valV ks (k.map kyS) = some v ∧ RL K F ρ p v
  | [], ks, k, h => by simp only [RLt] at h; subst h; exact .inl ⟨rfl, rfl⟩
  | (j, p) :: r, ks, k, h => by
    simp only [RLt] at h
    obtain ⟨v, s, e1, e2, e3, e4⟩ := h
    subst e1
    by_cases hj : j = k
    · subst hj
      exact .inr ⟨p, v, by simp [look], valV_pos rfl, e3⟩
    · have hn : ¬ j.map kyS = k.map kyS := fun e => hj (kySs_inj e)
      rw [valV_neg (p := (j.map kyS, v)) hn]
      simp only [look, if_neg hj]
      exact valV_tL k e4
/-- the key of a dict of tuples lies as a tracked tuple -/
theorem kT_of (s : Sub F H) {p : PV} {k : List Ky} {v : V} (e : keyT p = some k) (h : PK K F H p v) : ∃ b, v = .ref b ∧ H b = some (.tup ((k.map kyS).map kV)) := by
  cases p <;> simp [keyT] at e
  rename_i xs
  simp only [PK, RP] at h
  obtain ⟨a, vs, e1, e2, e3⟩ := h
  obtain ⟨h1, _⟩ := kVs_of e e3
  exact ⟨a, e1, by rw [← h1]; exact s _ _ e2⟩
theorem kT_ok {p : PV} {k : List Ky} {v : V} (e : keyT p = some k) (h : PK K F H p v) : k.all okK = true := by
  cases p <;> simp [keyT] at e
  simp only [PK, RP] at h
  obtain ⟨a, vs, e1, e2, e3⟩ := h
  exact (kVs_of e e3).2
theorem look_isSome {κ α : Type} [DecidableEq κ] (k : κ) (kvs : List (κ × α)) : has k kvs = (look k kvs).isSome := rfl
theorem dget_k {kvs : List (Ky × PV)} {q : PV} {k : Ky} {v w : V} (hp : PK K F H (.dk kvs) v) (hq : PK K F H q w) (e : keyK q = some k) :
    ∃ a, v = .ref a ∧ ((look k kvs = none ∧ DGet H a w none) ∨ ∃ p z, look k kvs = some p ∧ DGet H a w (some z) ∧ RP K F p z) := by
  obtain ⟨a, ks, e1, e2, e3⟩ := hp
  obtain ⟨h1, _⟩ := kV_of e hq
  subst h1
  refine ⟨a, e1, ?_⟩
  have d := DGet.k (k := kyS k) e2
  rcases valV_k k e3 with ⟨l1, l2⟩ | ⟨p, z, l1, l2, l3⟩
  · rw [l2] at d; exact .inl ⟨l1, d⟩
  · rw [l2] at d; exact .inr ⟨p, z, l1, d, l3⟩
theorem dget_t (s : Sub F H) {kvs : List (List Ky × PV)} {q : PV} {k : List Ky} {v w : V} (hp : PK K F H (.dt kvs) v) (hq : PK K F H q w) (e : keyT q = some k) :
    ∃ a, v = .ref a ∧ ((look k kvs = none ∧ DGet H a w none) ∨ ∃ p z, look k kvs = some p ∧ DGet H a w (some z) ∧ RP K F p z) := by
  obtain ⟨a, ks, e1, e2, e3⟩ := hp
  obtain ⟨b, h1, h2⟩ := kT_of s e hq
  subst h1
  refine ⟨a, e1, ?_⟩
  have d := DGet.t e2 h2
  rcases valV_t k e3 with ⟨l1, l2⟩ | ⟨p, z, l1, l2, l3⟩
  · rw [l2] at d; exact .inl ⟨l1, d⟩
  · rw [l2] at d; exact .inr ⟨p, z, l1, d, l3⟩
theorem rd_eq {neg : Bool} {p q : PV} {c : Bool} {v w : V} {Q : VK} (hh : HR' M K F ρ H st) (hp : PK K F H p v) (hq : PK K F H q w) (e : opEq p q = some c) (post : PostE M K W σ F ρ H Q (.ok (.pv (.bl (neg ^^ c))) st)) : rEqZ K neg v w H Q := by
  unfold opEq at e
  split at e
  · rename_i hc
    simp only [Option.some.injEq] at e
    simp only [Bool.and_eq_true, decide_eq_true_eq] at hc
    obtain ⟨d1, c1⟩ := hp.dp hh.sub hc.1.1
    obtain ⟨d2, c2⟩ := hq.dp hh.sub hc.1.2
    refine ⟨_, _, d1, d2, c1, c2, by rw [depth_toD, depth_toD]; exact hc.2, ?_⟩
    rw [eqv_toD p q hc.1.1 hc.1.2, e]
    exact post.tree hh (by simp only [RP])
  · cases e
theorem rd_in {neg : Bool} {x : PV} {xs : List PV} {c : Bool} {p : PV} {v w : V} {Q : VK} (hh : HR' M K F ρ H st) (hx : PK K F H x v) (hp : p = .lst xs ∨ p = .tup xs) (hq : PK K F H p w) (e : inFlat x xs = some c)
    (post : PostE M K W σ F ρ H Q (.ok (.pv (.bl (if neg then !c else c))) st)) : rIn K neg v w H Q := by
  unfold inFlat at e
  split at e
  · rename_i hc
    simp only [Option.some.injEq] at e
    simp only [Bool.and_eq_true] at hc
    obtain ⟨a, vs, e1, e2, e3⟩ := RPs.any_sq hh.sub hp hq
    refine ⟨a, vs, e1, e2, flat_ok hc.1 hx, flats_ok hc.2 e3, ?_⟩
    rw [inV_ok hc.1 hx hh.sub hc.2 e3, e]
    exact post.tree hh (by simp only [RP])
  · cases e
theorem rd_cmpP {op : CO} {p q : PV} {c : Bool} {v w : V} {Q : VK} (hh : HR' M K F ρ H st) (hp : PK K F H p v) (hq : PK K F H q w) (e : doCmp op p q = some c) (post : PostE M K W σ F ρ H Q (.ok (.pv (.bl c)) st)) : rCmp K op v w H Q := by
  cases op
  case eq => exact rd_eq (neg := false) hh hp hq (by simpa [doCmp] using e) (by simpa using post)
  case ne =>
    simp only [doCmp, Option.map_eq_some_iff] at e
    obtain ⟨d, e1, e2⟩ := e
    exact rd_eq (neg := true) hh hp hq e1 (by rw [Bool.true_xor, e2]; exact post)
  case lt =>
    cases p <;> cases q <;> simp only [doCmp, Option.some.injEq, reduceCtorEq] at e
    subst e
    exact ⟨_, _, hp.int, hq.int, post.tree hh (by simp only [RP])⟩
  case le =>
    cases p <;> cases q <;> simp only [doCmp, Option.some.injEq, reduceCtorEq] at e
    subst e
    exact ⟨_, _, hp.int, hq.int, post.tree hh (by simp only [RP])⟩
  case gt =>
    cases p <;> cases q <;> simp only [doCmp, Option.some.injEq, reduceCtorEq] at e
    subst e
    exact ⟨_, _, hp.int, hq.int, post.tree hh (by simp only [RP])⟩
  case ge =>
    cases p <;> cases q <;> simp only [doCmp, Option.some.injEq, reduceCtorEq] at e
    subst e
    exact ⟨_, _, hp.int, hq.int, post.tree hh (by simp only [RP])⟩
  case in_ =>
    cases q <;> simp only [doCmp, Option.map_eq_some_iff, reduceCtorEq] at e
    case lst xs => exact .inl (rd_in (neg := false) hh hp (.inl rfl) hq e (by simpa using post))
    case tup xs => exact .inl (rd_in (neg := false) hh hp (.inr rfl) hq e (by simpa using post))
    case dk kvs =>
      obtain ⟨k, e1, e2⟩ := e
      obtain ⟨a, ea, d⟩ := dget_k hq hp e1
      rcases d with ⟨l, d⟩ | ⟨z, u, l, d, _⟩
      · refine .inr ⟨a, none, ea, d, ?_⟩
        rw [look_isSome, l] at e2
        subst e2
        exact post.tree hh (by simp only [RP]; rfl)
      · refine .inr ⟨a, some u, ea, d, ?_⟩
        rw [look_isSome, l] at e2
        subst e2
        exact post.tree hh (by simp only [RP]; rfl)
    case dt kvs =>
      obtain ⟨k, e1, e2⟩ := e
      obtain ⟨a, ea, d⟩ := dget_t hh.sub hq hp e1
      rcases d with ⟨l, d⟩ | ⟨z, u, l, d, _⟩
      · refine .inr ⟨a, none, ea, d, ?_⟩
        rw [look_isSome, l] at e2
        subst e2
        exact post.tree hh (by simp only [RP]; rfl)
      · refine .inr ⟨a, some u, ea, d, ?_⟩
        rw [look_isSome, l] at e2
        subst e2
        exact post.tree hh (by simp only [RP]; rfl)
  case nin =>
    cases q <;> simp only [doCmp, Option.map_eq_some_iff, reduceCtorEq] at e
    case lst xs =>
      obtain ⟨d, e1, e2⟩ := e
      exact .inl (rd_in (neg := true) hh hp (.inl rfl) hq e1 (by simp only [if_true]; rw [e2]; exact post))
    case tup xs =>
      obtain ⟨d, e1, e2⟩ := e
      exact .inl (rd_in (neg := true) hh hp (.inr rfl) hq e1 (by simp only [if_true]; rw [e2]; exact post))
    case dk kvs =>
      obtain ⟨k, e1, e2⟩ := e
      obtain ⟨a, ea, d⟩ := dget_k hq hp e1
      rcases d with ⟨l, d⟩ | ⟨z, u, l, d, _⟩
      · refine .inr ⟨a, none, ea, d, ?_⟩
        rw [look_isSome, l] at e2
        subst e2
        exact post.tree hh (by simp only [RP]; rfl)
      · refine .inr ⟨a, some u, ea, d, ?_⟩
        rw [look_isSome, l] at e2
        subst e2
        exact post.tree hh (by simp only [RP]; rfl)
    case dt kvs =>
      obtain ⟨k, e1, e2⟩ := e
      obtain ⟨a, ea, d⟩ := dget_t hh.sub hq hp e1
      rcases d with ⟨l, d⟩ | ⟨z, u, l, d, _⟩
      · refine .inr ⟨a, none, ea, d, ?_⟩
        rw [look_isSome, l] at e2
        subst e2
        exact post.tree hh (by simp only [RP]; rfl)
      · refine .inr ⟨a, some u, ea, d, ?_⟩
        rw [look_isSome, l] at e2
        subst e2
        exact post.tree hh (by simp only [RP]; rfl)
theorem rd_cmp (op : CO) : RdV2 M K W (rCmp K op) (cmp op) := by
  intro σ H Q F ρ st x y v w res hh rx ry e p
  unfold cmp at e
  cases ex : peek st x with
  | none => simp [ex] at e
  | some a =>
    cases ey : peek st y with
    | none => simp [ex, ey] at e
    | some b =>
      simp only [ex, ey, Option.map_eq_some_iff] at e
      obtain ⟨c, e1, e2⟩ := e
      subst e2
      exact rd_cmpP hh (peek_ok hh rx ex) (peek_ok hh ry ey) e1 p

/-! ### subscripts -/
theorem atI_eq {α : Type} (xs : List α) (i : Int) : L2.atI xs i = atI xs i := by
  unfold L2.atI atI
  show (L2.ixN xs.length i).bind _ = match Z.ixN xs.length i with | some j => xs[j]? | none => none
  have e : L2.ixN xs.length i = Z.ixN xs.length i := rfl
  rw [e]
  cases Z.ixN xs.length i <;> rfl
theorem RPs.at_ {xs : List PV} {vs : List V} (h : RPs K F xs vs) {i : Int} {x : PV} (e : atI xs i = some x) : ∃ v, L2.atI vs i = some v ∧ RP K F x v := by
  rw [atI_eq]
  unfold atI at e ⊢
  rw [← h.length]
  cases q : ixN xs.length i with
  | none => simp [q] at e
  | some j =>
    simp only [q] at e ⊢
    exact h.get e
theorem RLs.at_ {xs : List LV} {vs : List V} (h : RLs K F ρ xs vs) {i : Int} {x : LV} (e : atI xs i = some x) : ∃ v, L2.atI vs i = some v ∧ RL K F ρ x v := by
  rw [atI_eq]
  unfold atI at e ⊢
  rw [← h.length]
  cases q : ixN xs.length i with
  | none => simp [q] at e
  | some j =>
    simp only [q] at e ⊢
    exact h.get e
theorem atI_mem {α : Type} {xs : List α} {i : Int} {x : α} (e : atI xs i = some x) : x ∈ xs := by
  unfold atI at e
  cases q : ixN xs.length i with
  | none => simp [q] at e
  | some j =>
    simp only [q] at e
    exact List.mem_of_getElem? e
theorem rd_idxP {p i z : PV} {v w : V} {Q : VK} (hh : HR' M K F ρ H st) (hp : PK K F H p v) (hi : PK K F H i w) (e : doIdx p i = some z) (post : PostE M K W σ F ρ H Q (.ok (.pv z) st)) : rIxZ K v w H Q := by
  cases p <;> simp only [doIdx, reduceCtorEq] at e
  case str s =>
    cases i <;> simp only [reduceCtorEq] at e
    split at e
    · rename_i hl
      simp only [Option.map_eq_some_iff] at e
      obtain ⟨c, e1, e2⟩ := e
      subst e2
      refine .inr (.inr (.inl ⟨mkS s, _, c, hp.str.1, hi.int, by rw [mkS_len, line_eq]; exact hl, by rw [mkS_cps, atI_eq]; exact e1, post.tree hh ?_⟩))
      simp only [RP]
      refine ⟨rfl, ?_⟩
      have := hp.str.2
      simp only [okS, List.all_eq_true] at this
      simpa [okS] using this c (atI_mem e1)
    · cases e
  case tup xs =>
    cases i <;> simp only [reduceCtorEq] at e
    simp only [PK, RP] at hp
    obtain ⟨a, vs, e1, e2, e3⟩ := hp
    obtain ⟨u, h1, h2⟩ := e3.at_ e
    exact .inr (.inl ⟨a, vs, _, u, e1, hi.int, .inl (.inl (hh.sub _ _ e2)), h1, post.tree hh h2⟩)
  case lst xs =>
    cases i <;> simp only [reduceCtorEq] at e
    obtain ⟨a, vs, e1, e2, e3⟩ := hp
    obtain ⟨u, h1, h2⟩ := e3.at_ e
    exact .inl ⟨a, vs, _, u, e1, hi.int, .inl (.inl e2), h1, post.tree hh h2⟩
  case dk kvs =>
    cases q : keyK i with
    | none => simp [q] at e
    | some k =>
      simp only [q] at e
      obtain ⟨a, ea, d⟩ := dget_k hp hi q
      rcases d with ⟨l, d⟩ | ⟨z', u, l, d, rz⟩
      · rw [l] at e; cases e
      · rw [l] at e; cases e
        exact .inr (.inr (.inr ⟨a, u, ea, d, post.tree hh rz⟩))
  case dt kvs =>
    cases q : keyT i with
    | none => simp [q] at e
    | some k =>
      simp only [q] at e
      obtain ⟨a, ea, d⟩ := dget_t hh.sub hp hi q
      rcases d with ⟨l, d⟩ | ⟨z', u, l, d, rz⟩
      · rw [l] at e; cases e
      · rw [l] at e; cases e
        exact .inr (.inr (.inr ⟨a, u, ea, d, post.tree hh rz⟩))
theorem rd_getI : RdV2 M K W (rIxZ K) getI := by
  intro σ H Q F ρ st x y v w res hh rx ry e p
  cases x with
  | pv a =>
    cases y with
    | pv b =>
      simp only [getI] at e
      cases q : doIdx a b with
      | none => simp [q, okP] at e
      | some z =>
        simp only [q, okP, Option.some.injEq] at e
        subst e
        simp only [RL] at rx ry
        exact rd_idxP hh (PK.of hh.sub rx) (PK.of hh.sub ry) q p
    | ref _ => simp [getI] at e
    | tup _ => simp [getI] at e
  | ref n =>
    simp only [RL] at rx
    obtain ⟨a, ev, ea⟩ := rx
    obtain ⟨c, ec, hc⟩ := hh.at ea
    simp only [getI, ec] at e
    cases c with
    | lst live xs =>
      cases y with
      | pv b =>
        cases b <;> simp only [reduceCtorEq] at e
        rename_i i
        cases q : atI xs i with
        | none => simp [q] at e
        | some z =>
          simp only [q, Option.some.injEq] at e
          subst e
          obtain ⟨vs, h1, h2, _⟩ := hc
          obtain ⟨u, l1, l2⟩ := h2.at_ q
          simp only [RL, RP] at ry
          exact .inl ⟨a, vs, i, u, ev, ry, .inl (.inl h1), l1, p.here hh l2⟩
      | ref _ => simp at e
      | tup _ => simp at e
    | dk live kvs =>
      cases y with
      | pv b =>
        cases q : keyK b with
        | none => simp [q] at e
        | some k =>
          simp only [q] at e
          obtain ⟨ks, h1, h2, _⟩ := hc
          simp only [RL] at ry
          obtain ⟨hk, _⟩ := kV_of (H := F) q (PK.of (Sub.refl F) ry)
          subst hk
          have d := DGet.k (k := kyS k) h1
          rcases valV_kL k h2 with ⟨l1, l2⟩ | ⟨z, u, l1, l2, l3⟩
          · rw [l1] at e; cases e
          · rw [l1] at e; cases e
            rw [l2] at d
            exact .inr (.inr (.inr ⟨a, u, ev, d, p.here hh l3⟩))
      | ref _ => simp at e
      | tup _ => simp at e
    | dt live kvs =>
      cases y with
      | pv b =>
        cases q : keyT b with
        | none => simp [q] at e
        | some k =>
          simp only [q] at e
          obtain ⟨ks, h1, h2, _⟩ := hc
          simp only [RL] at ry
          obtain ⟨b', hk, hk2⟩ := kT_of (H := H) hh.sub q (PK.of hh.sub ry)
          subst hk
          have d := DGet.t h1 hk2
          rcases valV_tL k h2 with ⟨l1, l2⟩ | ⟨z, u, l1, l2, l3⟩
          · rw [l1] at e; cases e
          · rw [l1] at e; cases e
            rw [l2] at d
            exact .inr (.inr (.inr ⟨a, u, ev, d, p.here hh l3⟩))
      | ref _ => simp at e
      | tup _ => simp at e
    | ins C fs => simp at e
  | tup xs =>
    cases y with
    | pv b =>
      cases b <;> simp only [getI, reduceCtorEq] at e
      rename_i i
      cases q : atI xs i with
      | none => simp [q] at e
      | some z =>
        simp only [q, Option.some.injEq] at e
        subst e
        simp only [RL] at rx
        obtain ⟨a, vs, e1, e2, e3⟩ := rx
        obtain ⟨u, l1, l2⟩ := e3.at_ q
        simp only [RL, RP] at ry
        exact .inr (.inl ⟨a, vs, i, u, e1, ry, .inl (.inl (hh.sub _ _ e2)), l1, p.here hh l2⟩)
    | ref _ => simp [getI] at e
    | tup _ => simp [getI] at e

/-! ### truth -/
theorem rd_tru {p : PV} {b : Bool} {v : V} (s : Sub F H) (h : PK K F H p v) (e : tru p = some b) : TruV K v H b := by
  cases p <;> simp only [tru, Option.some.injEq, reduceCtorEq] at e
  case non => subst e; simp only [PK, RP] at h; subst h; rfl
  case bl c => subst e; simp only [PK, RP] at h; subst h; rfl
  case int i => subst e; rw [h.int]; rfl
  case str x =>
    split at e
    · rename_i hl
      simp only [Option.some.injEq] at e
      subst e
      rw [h.str.1]
      refine ⟨by rw [mkS_len, line_eq]; exact hl, ?_⟩
      rw [mkS_len]
      cases x <;> simp
      omega
    · cases e
  case lst xs =>
    subst e
    obtain ⟨a, vs, e1, e2, e3⟩ := h
    subst e1
    refine .inl ⟨vs, .inl (.inl e2), ?_⟩
    have := e3.length
    cases xs <;> cases vs <;> simp at this <;> rfl
  case tup xs =>
    subst e
    simp only [PK, RP] at h
    obtain ⟨a, vs, e1, e2, e3⟩ := h
    subst e1
    refine .inr (.inl ⟨vs, .inl (.inl (s _ _ e2)), ?_⟩)
    have := e3.length
    cases xs <;> cases vs <;> simp at this <;> rfl
theorem rd_truL {x : LV} {b : Bool} {v : V} (hh : HR' M K F ρ H st) (r : RL K F ρ x v) (e : truL x st = some b) : TruV K v H b := by
  unfold truL at e
  cases q : peek st x with
  | none => simp [q] at e
  | some p =>
    simp only [q] at e
    exact rd_tru hh.sub (peek_ok hh r q) e
end
end Z
end

section
/-! ZI: freezing, the store behind a call, what a def promises, builtins. -/
namespace Z
open PySem PySem.Spec PyProof.Rows L2
section
variable {M : Nm} {K : PySem.W.Frag} {W : WX} {σ : L2.St} {F F' H H' : Hp} {ρ ρ' : List Addr} {st : Store}
theorem frz_ok {x : LV} {p : PV} {st' : Store} {v : V} (h : HR' M K F ρ H st) (r : RL K F ρ x v) (e : frz x st = some (p, st')) :
    ∃ F', G F ρ H F' ρ H ∧ HR' M K F' ρ H st' ∧ RP K F' p v := by
  cases x with
  | pv q =>
    simp only [frz, Option.some.injEq, Prod.mk.injEq] at e
    obtain ⟨e1, e2⟩ := e
    subst e1 e2
    simp only [RL] at r
    exact ⟨F, G.refl F ρ H, h, r⟩
  | tup xs => simp [frz] at e
  | ref n =>
    simp only [RL] at r
    obtain ⟨a, ev, ea⟩ := r
    obtain ⟨c, ec, hc⟩ := h.at ea
    simp only [frz, ec] at e
    have base : ∀ (live : Bool) (o : HO), (live = true → F a = none) → (live = false → F a = some o) → F a = none ∨ F a = some o := fun live o h1 h2 => by
      cases live with
      | true => exact .inl (h1 rfl)
      | false => exact .inr (h2 rfl)
    have sb : ∀ o, F a = none ∨ F a = some o → Sub F (upd F a o) := fun o hF b u e => by
      by_cases hb : b = a
      · subst hb
        rcases hF with z | z
        · rw [z] at e; cases e
        · rw [z] at e; rw [upd_same]; exact e
      · rw [upd_ne hb]; exact e
    cases c with
    | lst live xs =>
      obtain ⟨vs, h1, h2, h3, h4⟩ := hc
      cases q : unpv xs with
      | none => simp [q] at e
      | some ps =>
        simp only [q, Option.some.injEq, Prod.mk.injEq] at e
        obtain ⟨e1, e2⟩ := e
        subst e1 e2
        have hF := base live _ h3 h4
        have hs := sb _ hF
        obtain ⟨g, hr⟩ := h.froze ea h1 (c := .lst false xs) hF ⟨vs, h1, RLs.mono hs (Pre.refl ρ) _ _ h2, ⟨fun z => Bool.noConfusion z, fun _ => upd_same⟩⟩
        refine ⟨_, g, hr, ?_⟩
        simp only [RP]
        rw [unpv_eq q] at h2
        exact ⟨a, vs, ev, upd_same, RPs.mono hs _ _ (RLs_pv.mp h2)⟩
    | dk live xs =>
      obtain ⟨vs, h1, h2, h3, h4⟩ := hc
      cases q : unpvK xs with
      | none => simp [q] at e
      | some ps =>
        simp only [q, Option.some.injEq, Prod.mk.injEq] at e
        obtain ⟨e1, e2⟩ := e
        subst e1 e2
        have hF := base live _ h3 h4
        have hs := sb _ hF
        obtain ⟨g, hr⟩ := h.froze ea h1 (c := .dk false xs) hF ⟨vs, h1, RLk.mono hs (Pre.refl ρ) h2, ⟨fun z => Bool.noConfusion z, fun _ => upd_same⟩⟩
        refine ⟨_, g, hr, ?_⟩
        simp only [RP]
        rw [unpvK_eq q] at h2
        exact ⟨a, vs, ev, upd_same, RPk.mono hs _ _ (RLk_pv.mp h2)⟩
    | dt live xs =>
      obtain ⟨vs, h1, h2, h3, h4⟩ := hc
      cases q : unpvK xs with
      | none => simp [q] at e
      | some ps =>
        simp only [q, Option.some.injEq, Prod.mk.injEq] at e
        obtain ⟨e1, e2⟩ := e
        subst e1 e2
        have hF := base live _ h3 h4
        have hs := sb _ hF
        obtain ⟨g, hr⟩ := h.froze ea h1 (c := .dt false xs) hF ⟨vs, h1, RLt.mono hs (Pre.refl ρ) h2, ⟨fun z => Bool.noConfusion z, fun _ => upd_same⟩⟩
        refine ⟨_, g, hr, ?_⟩
        simp only [RP]
        rw [unpvK_eq q] at h2
        exact ⟨a, vs, ev, upd_same, RPt.mono hs _ _ (RLt_pv.mp h2)⟩
    | ins C fs => simp at e

/-! ### a call that knows none of our cells -/
theorem HR.after (h : HR' M K F ρ H st) (sub : Sub F F') (keep : ∀ b o, H b = some o → H' b = some o) (new : ∀ b o, F' b = some o → F b = some o ∨ H b = none) (s : Sub F' H') :
    G F ρ H F' ρ H' ∧ HR' M K F' ρ H' st := by
  refine ⟨⟨sub, Pre.refl ρ, fun b o e _ => keep b o e, fun b o e => (new b o e).elim .inl fun z => .inr (.inl z), fun b hb => .inl hb, fun b hb => ?_⟩, ⟨s, h.len, h.nd, fun n a c e1 e2 => ?_⟩⟩
  · cases q : H b with
    | none => exact absurd q hb
    | some o => rw [keep b o q]; simp
  · have hc := h.cell n a c e1 e2
    obtain ⟨u, hu⟩ := hc.there
    refine hc.mono sub (Pre.refl ρ) (fun o e => keep a o e) fun e => ?_
    cases q : F' a with
    | none => rfl
    | some o =>
      rcases new a o q with z | z
      · rw [e] at z; cases z
      · rw [hu] at z; cases z

/-! ### cells go -/
mutual
theorem RL.below {n : Nat} : ∀ (x : LV) (v : V), below n x = true → RL K F ρ x v → RL K F (ρ.take n) x v
  | .pv p, v, _, h => by simpa only [RL] using h
  | .ref m, v, b, h => by
    simp only [RL] at h ⊢
    obtain ⟨a, e1, e2⟩ := h
    refine ⟨a, e1, ?_⟩
    simp only [Z.below, decide_eq_true_eq] at b
    rw [List.getElem?_take, if_pos b]
    exact e2
  | .tup xs, v, b, h => by
    simp only [RL] at h ⊢
    obtain ⟨a, vs, e1, e2, e3⟩ := h
    exact ⟨a, vs, e1, e2, RLs.below xs vs (by simpa [Z.below] using b) e3⟩
theorem RLs.below {n : Nat} : ∀ (xs : List LV) (vs : List V), belows n xs = true → RLs K F ρ xs vs → RLs K F (ρ.take n) xs vs
  | [], vs, _, h => by simpa only [RLs] using h
  | x :: xs, vs, b, h => by
    simp only [RLs] at h ⊢
    simp only [belows, Bool.and_eq_true] at b
    obtain ⟨v, r, e1, e2, e3⟩ := h
    exact ⟨v, r, e1, RL.below x v b.1 e2, RLs.below xs r b.2 e3⟩
end
theorem RLk.below {n : Nat} : ∀ {xs : List (Ky × LV)} {vs : List (Key × V)}, belows n (xs.map (·.2)) = true → RLk K F ρ xs vs → RLk K F (ρ.take n) xs vs
  | [], vs, _, h => by simpa only [RLk] using h
  | (k, x) :: xs, vs, b, h => by
    simp only [RLk] at h ⊢
    simp only [List.map_cons, belows, Bool.and_eq_true] at b
    obtain ⟨v, r, e1, e2, e3, e4⟩ := h
    exact ⟨v, r, e1, e2, RL.below x v b.1 e3, RLk.below b.2 e4⟩
theorem RLt.below {n : Nat} : ∀ {xs : List (List Ky × LV)} {vs : List (List Key × V)}, belows n (xs.map (·.2)) = true → RLt K F ρ xs vs → RLt K F (ρ.take n) xs vs
  | [], vs, _, h => by simpa only [RLt] using h
  | (k, x) :: xs, vs, b, h => by
    simp only [RLt] at h ⊢
    simp only [List.map_cons, belows, Bool.and_eq_true] at b
    obtain ⟨v, r, e1, e2, e3, e4⟩ := h
    exact ⟨v, r, e1, e2, RL.below x v b.1 e3, RLt.below b.2 e4⟩
theorem CR.below {n : Nat} {a : Addr} {c : Cell} (b : c.below n = true) (h : CR K F ρ M.cad M.fnm H a c) : CR K F (ρ.take n) M.cad M.fnm H a c := by
  cases c with
  | lst live xs => obtain ⟨vs, h1, h2, h3⟩ := h; exact ⟨vs, h1, RLs.below _ _ b h2, h3⟩
  | dk live xs => obtain ⟨vs, h1, h2, h3⟩ := h; exact ⟨vs, h1, RLk.below b h2, h3⟩
  | dt live xs => obtain ⟨vs, h1, h2, h3⟩ := h; exact ⟨vs, h1, RLt.below b h2, h3⟩
  | ins C fs => obtain ⟨dx, vs, h1, h2, h3⟩ := h; exact ⟨dx, vs, h1, RLs.below _ _ b h2, h3⟩
theorem trunc_ok {n : Nat} {ok : Bool} (hn : ρ.length = n) (g : G F ρ H F' ρ' H') (h : HR' M K F' ρ' H' st) :
    ∃ ρ2, G F ρ H F' ρ2 H' ∧ HR' M K F' ρ2 H' (trunc n ok st) ∧ (∀ x v, (ok = true → below n x = true) → RL K F' ρ' x v → RL K F' ρ2 x v) := by
  unfold trunc
  split
  · rename_i hc
    simp only [Bool.and_eq_true, List.all_eq_true] at hc
    refine ⟨ρ'.take n, ⟨g.sub, fun i a e => ?_, g.keep, g.new, fun b hb => g.newρ b (List.mem_of_mem_take hb), g.hold⟩, ⟨h.sub, by rw [List.length_take, List.length_take, h.len], h.nd.sublist (List.take_sublist _ _), fun i a c e1 e2 => ?_⟩,
      fun x v hb r => RL.below x v (hb hc.1) r⟩
    · have hi : i < n := by
        rw [← hn]
        exact (List.getElem?_eq_some_iff.mp e).1
      rw [List.getElem?_take, if_pos hi]
      exact g.pre i a e
    · have e1' : ρ'[i]? = some a := by
        rw [List.getElem?_take] at e1
        split at e1
        · exact e1
        · cases e1
      have e2' : st[i]? = some c := by
        rw [List.getElem?_take] at e2
        split at e2
        · exact e2
        · cases e2
      exact (h.cell i a c e1' e2').below (hc.2 c (List.mem_of_getElem? e2))
  · exact ⟨ρ', g, h, fun x v _ r => r⟩

/-! ### what a def promises -/
def spOf (M : Nm) (K : PySem.W.Frag) (cal : List LV → Store → Option ER) (n : Nat) : Sp := fun vs H Q E =>
  vs.length = n ∧ ∃ F ρ st args r, HR' M K F ρ H st ∧ RLs K F ρ args vs ∧ cal args st = some r ∧ PostE M K (fun cls d _ H => E cls d H) [] F ρ H Q r
theorem PostE.ex_tr {Q : VK} {e : Ex} {st st2 : Store} (p : PostE M K W σ F ρ H Q (.ex e st)) (h : ∀ F' ρ' H', G F ρ H F' ρ' H' → HR' M K F' ρ' H' st2 → ∃ ρ2, G F ρ H F' ρ2 H' ∧ HR' M K F' ρ2 H' st) : PostE M K W σ F ρ H Q (.ex e st2) := by
  intro F' ρ' H' cls d g h' x
  obtain ⟨ρ2, g2, h2⟩ := h F' ρ' H' g h'
  exact p F' ρ2 H' cls d g2 h2 x
theorem rd_call {S : Sem} {f n : Nat} {args : List LV} {vs : List V} {Q : VK} {res : ER} (hh : HR' M K F ρ H st) (ra : RLs K F ρ args vs) (hl : vs.length = n) (e : S.call f args st = some res) (post : PostE M K W σ F ρ H Q res) :
    spOf M K (S.cal f) n vs H Q (fun cls d H => W cls d σ H) := by
  refine ⟨hl, ?_⟩
  have shared : ∀ r0, S.cal f args st = some r0 → (match r0 with
      | .ok v st1 => res = .ok v (trunc st.length (below st.length v) st1)
      | .ex e st1 => res = .ex e (trunc st.length true st1)) → ∃ F ρ st args r, HR' M K F ρ H st ∧ RLs K F ρ args vs ∧ S.cal f args st = some r ∧ PostE M K (fun cls d _ H => W cls d σ H) [] F ρ H Q r := by
    intro r0 e0 hres
    refine ⟨F, ρ, st, args, r0, hh, ra, e0, ?_⟩
    cases r0 with
    | ok x st1 =>
      subst hres
      intro F' ρ' H' v g h r
      obtain ⟨ρ2, g2, h2, k2⟩ := trunc_ok (ok := below st.length x) hh.len g h
      exact post F' ρ2 H' v g2 h2 (k2 x v (fun z => z) r)
    | ex x st1 =>
      subst hres
      intro F' ρ' H' cls d g h r
      obtain ⟨ρ2, g2, h2, _⟩ := trunc_ok (ok := true) hh.len g h
      exact post F' ρ2 H' cls d g2 h2 r
  have isPure : ∀ ps, unpv args = some ps → (∃ r0, S.cal f args [] = some r0 ∧ match r0 with
      | .ok v st1 => ∃ p, frz v st1 = some p ∧ res = .ok (.pv p.1) st
      | .ex e _ => res = .ex e st) → ∃ F ρ st args r, HR' M K F ρ H st ∧ RLs K F ρ args vs ∧ S.cal f args st = some r ∧ PostE M K (fun cls d _ H => W cls d σ H) [] F ρ H Q r := by
    rintro ps eu ⟨r0, e0, hres⟩
    have ea := unpv_eq eu
    have ra0 : RLs K F [] args vs := by
      rw [ea] at ra ⊢
      exact RLs_pv.mpr (RLs_pv.mp ra)
    refine ⟨F, [], [], args, r0, ⟨hh.sub, rfl, List.nodup_nil, fun n a c e _ => by simp at e⟩, ra0, e0, ?_⟩
    cases r0 with
    | ok x st1 =>
      obtain ⟨p, ef, er⟩ := hres
      subst er
      intro F' ρ' H' v g h r
      obtain ⟨F2, g2, h2, r2⟩ := frz_ok h r (p := p.1) (st' := p.2) ef
      have g3 := g.trans g2
      obtain ⟨g4, h4⟩ := hh.after (F' := F2) (H' := H') g3.sub (fun b o e => g3.keep b o e (by simp)) (fun b o e => by
        rcases g3.new b o e with z | z | z
        · exact .inl z
        · exact .inr z
        · simp at z) h2.sub
      exact post F2 ρ H' v g4 h4 (by simp only [RL]; exact r2)
    | ex x st1 =>
      subst hres
      intro F' ρ' H' cls d g h r
      obtain ⟨g4, h4⟩ := hh.after (F' := F') (H' := H') g.sub (fun b o e => g.keep b o e (by simp)) (fun b o e => by
        rcases g.new b o e with z | z | z
        · exact .inl z
        · exact .inr z
        · simp at z) h.sub
      exact post F' ρ H' cls d g4 h4 r
  unfold Sem.call at e
  split at e
  · rename_i ps hs hu
    refine isPure ps hu ?_
    cases q : S.cal f args [] with
    | none => simp [q] at e
    | some r0 =>
      refine ⟨r0, rfl, ?_⟩
      cases r0 with
      | ok v st1 =>
        simp only [q, Option.map_eq_some_iff] at e
        obtain ⟨p, e1, e2⟩ := e
        exact ⟨p, e1, e2.symm⟩
      | ex x st1 =>
        simp only [q, Option.some.injEq] at e
        exact e.symm
  · cases q : S.cal f args st with
    | none => simp [q] at e
    | some r0 =>
      refine shared r0 q ?_
      cases r0 with
      | ok v st1 =>
        simp only [q, Option.some.injEq] at e
        exact e.symm
      | ex x st1 =>
        simp only [q, Option.some.injEq] at e
        exact e.symm
end

/-! ### builtins -/
section
variable {X : Cx}
def biName : BI → Str
  | .len => "len" | .abs => "abs" | .int => "int" | .list => "list" | .sum => "sum" | .all => "all" | .any => "any"
def biV : BI → Value
  | .len => .builtin "len" | .abs => .builtin "abs" | .int => .type "int" | .list => .type "list" | .sum => .builtin "sum" | .all => .builtin "all" | .any => .builtin "any"
theorem bi_boot : ∀ b : BI, bootBuiltins (biName b) = some (biV b)
  | .len => PySem.boot_len
  | .abs => by decide +kernel
  | .int => by decide +kernel
  | .list => by decide +kernel
  | .sum => by decide +kernel
  | .all => by decide +kernel
  | .any => by decide +kernel
def rBI (K : PySem.W.Frag) : BI → List V → Hp → VK → Prop
  | .len => fun xs H Q => ∃ x n, xs = [x] ∧ LenV K x H n ∧ Q (.int n) H
  | .abs => fun xs H Q => ∃ i, xs = [.int i] ∧ Q (.int (if i < 0 then -i else i)) H
  | .int => fun xs H Q => (∃ i, xs = [.int i] ∧ Q (.int i) H) ∨ ∃ k, xs = [.bl k] ∧ Q (.int (if k then 1 else 0)) H
  | .list => fun xs H Q => ∃ p ys, xs = [.ref p] ∧ (SqL K H p ys ∨ SqT K H p ys) ∧ ∀ l, H l = none → Q (.ref l) (upd H l (.lst ys))
  | .sum => rSum K
  | .all => rAll K
  | .any => rAny K
theorem call_bi (hc : X.calm = true) : ∀ b : BI, CallR X (biV b) (rBI X.K b)
  | .len => call_len
  | .abs => call_abs
  | .int => call_int1
  | .list => call_list_of
  | .sum => cr_sum hc
  | .all => cr_all hc
  | .any => cr_any hc
/-- a call of a builtin by its name, function or type -/
theorem pe_bi {b : BI} {p pos : Pos} {e : Expr} {es : List Expr} {t : TA} (hc : X.calm = true) (hg : Gl X (biName b)) (hm : X.mg (biName b) = none) (ha : PA X (e :: es) t)
    (he : starEach (e :: es) X.env = (false, eval e X.env) :: starEach es X.env) (hpl : (backTo pos (starEach es X.env)).any (·.1) = false) : PE X (.Call (.Name (biName b) p) (e :: es) [] pos) (tCB (rBI X.K b) t) := by
  cases b with
  | len => exact pe_callB (call_bi hc .len) hg hm (bi_boot .len) ha (by decide) (by decide) he hpl
  | abs => exact pe_callB (call_bi hc .abs) hg hm (bi_boot .abs) ha (by decide) (by decide) he hpl
  | int => exact pe_callTy (call_bi hc .int) hg hm (bi_boot .int) ha (by decide) (by decide) he hpl
  | list => exact pe_callTy (call_bi hc .list) hg hm (bi_boot .list) ha (by decide) (by decide) he hpl
  | sum => exact pe_callB (call_bi hc .sum) hg hm (bi_boot .sum) ha (by decide) (by decide) he hpl
  | all => exact pe_callB (call_bi hc .all) hg hm (bi_boot .all) ha (by decide) (by decide) he hpl
  | any => exact pe_callB (call_bi hc .any) hg hm (bi_boot .any) ha (by decide) (by decide) he hpl
end
section
variable {M : Nm} {K : PySem.W.Frag} {W : WX} {σ : L2.St} {F F' H H' : Hp} {ρ ρ' : List Addr} {st : Store}
def PKs (K : PySem.W.Frag) (F H : Hp) : List PV → List V → Prop
  | [], vs => vs = []
  | x :: xs, vs => ∃ v r, vs = v :: r ∧ PK K F H x v ∧ PKs K F H xs r
theorem peeks_ok (hh : HR' M K F ρ H st) : ∀ {xs : List LV} {vs : List V} {ps : List PV}, RLs K F ρ xs vs → peeks st xs = some ps → PKs K F H ps vs
  | [], vs, ps, r, e => by
    simp only [peeks, Option.some.injEq] at e
    subst e
    simp only [RLs] at r
    exact r
  | x :: xs, vs, ps, r, e => by
    simp only [RLs] at r
    obtain ⟨v, s, e1, e2, e3⟩ := r
    subst e1
    unfold peeks at e
    cases q : peek st x with
    | none => simp [q] at e
    | some p =>
      simp only [q, Option.map_eq_some_iff] at e
      obtain ⟨ps', e4, e5⟩ := e
      subst e5
      exact ⟨v, s, rfl, peek_ok hh e2 q, peeks_ok hh e3 e4⟩
theorem ints_vals : ∀ {ps : List PV} {ns : List Int} {vs : List V}, intsOf ps = some ns → RPs K F ps vs → vs = ns.map V.int
  | [], ns, vs, e, h => by
    simp [intsOf] at e; subst e
    simp only [RPs] at h
    exact h
  | .int i :: ps, ns, vs, e, h => by
    simp only [intsOf, Option.map_eq_some_iff] at e
    obtain ⟨ms, e1, e2⟩ := e
    subst e2
    simp only [RPs, RP] at h
    obtain ⟨v, r, h1, h2, h3⟩ := h
    subst h1 h2
    rw [ints_vals e1 h3]; rfl
  | .non :: _, _, _, e, _ => by simp [intsOf] at e
  | .bl _ :: _, _, _, e, _ => by simp [intsOf] at e
  | .str _ :: _, _, _, e, _ => by simp [intsOf] at e
  | .tup _ :: _, _, _, e, _ => by simp [intsOf] at e
  | .lst _ :: _, _, _, e, _ => by simp [intsOf] at e
  | .dk _ :: _, _, _, e, _ => by simp [intsOf] at e
  | .dt _ :: _, _, _, e, _ => by simp [intsOf] at e
  | .scr _ :: _, _, _, e, _ => by simp [intsOf] at e
theorem bools_vals : ∀ {ps : List PV} {ns : List Bool} {vs : List V}, boolsOf ps = some ns → RPs K F ps vs → vs = ns.map V.bl
  | [], ns, vs, e, h => by
    simp [boolsOf] at e; subst e
    simp only [RPs] at h
    exact h
  | .bl i :: ps, ns, vs, e, h => by
    simp only [boolsOf, Option.map_eq_some_iff] at e
    obtain ⟨ms, e1, e2⟩ := e
    subst e2
    simp only [RPs, RP] at h
    obtain ⟨v, r, h1, h2, h3⟩ := h
    subst h1 h2
    rw [bools_vals e1 h3]; rfl
  | .non :: _, _, _, e, _ => by simp [boolsOf] at e
  | .int _ :: _, _, _, e, _ => by simp [boolsOf] at e
  | .str _ :: _, _, _, e, _ => by simp [boolsOf] at e
  | .tup _ :: _, _, _, e, _ => by simp [boolsOf] at e
  | .lst _ :: _, _, _, e, _ => by simp [boolsOf] at e
  | .dk _ :: _, _, _, e, _ => by simp [boolsOf] at e
  | .dt _ :: _, _, _, e, _ => by simp [boolsOf] at e
  | .scr _ :: _, _, _, e, _ => by simp [boolsOf] at e
theorem PKs.one {p : PV} {vs : List V} (h : PKs K F H [p] vs) : ∃ v, vs = [v] ∧ PK K F H p v := by
  obtain ⟨v, r, e1, e2, e3⟩ := h
  have e3' : r = [] := e3
  subst e3'
  exact ⟨v, e1, e2⟩
theorem RPs_ints : ∀ ns : List Int, RPs K F (ns.map .int) (ns.map V.int)
  | [] => by simp [RPs]
  | n :: ns => by
    simp only [List.map_cons, RPs]
    exact ⟨_, _, rfl, by simp only [RP], RPs_ints ns⟩
theorem rd_bi {b : BI} {ps : List PV} {z : PV} {vs : List V} {Q : VK} (hh : HR' M K F ρ H st) (h : PKs K F H ps vs) (e : doBI b ps = some z) (post : PostE M K W σ F ρ H Q (.ok (.pv z) st)) : rBI K b vs H Q := by
  unfold doBI at e
  split at e
  · simp only [Option.some.injEq] at e; subst e
    obtain ⟨v, e1, a, ws, e2, e3, e4⟩ := h.one
    subst e1 e2
    exact ⟨_, _, rfl, .inl ⟨ws, .inl (.inl e3), rfl⟩, by rw [← e4.length]; exact post.tree hh (by simp only [RP])⟩
  · simp only [Option.some.injEq] at e; subst e
    obtain ⟨v, e1, e2⟩ := h.one
    simp only [PK, RP] at e2
    obtain ⟨a, ws, e2, e3, e4⟩ := e2
    subst e1 e2
    exact ⟨_, _, rfl, .inr ⟨ws, .inl (.inl (hh.sub _ _ e3)), rfl⟩, by rw [← e4.length]; exact post.tree hh (by simp only [RP])⟩
  · split at e
    · rename_i hl
      simp only [Option.some.injEq] at e; subst e
      obtain ⟨v, e1, e2⟩ := h.one
      subst e1
      obtain ⟨e3, _⟩ := e2.str
      subst e3
      refine ⟨_, (mkS _).length, rfl, ⟨by rw [mkS_len, line_eq]; exact hl, rfl⟩, ?_⟩
      rw [mkS_len]
      exact post.tree hh (by simp only [RP])
    · cases e
  · simp only [Option.some.injEq] at e; subst e
    obtain ⟨v, e1, e2⟩ := h.one
    subst e1
    exact ⟨_, by rw [e2.int], post.tree hh (by simp only [RP])⟩
  · simp only [Option.some.injEq] at e; subst e
    obtain ⟨v, e1, e2⟩ := h.one
    subst e1
    exact .inl ⟨_, by rw [e2.int], post.tree hh (by simp only [RP])⟩
  · simp only [Option.some.injEq] at e; subst e
    obtain ⟨v, e1, e2⟩ := h.one
    simp only [PK, RP] at e2
    subst e1 e2
    exact .inr ⟨_, rfl, post.tree hh (by simp only [RP])⟩
  · simp only [Option.some.injEq] at e; subst e
    obtain ⟨v, e1, a, ws, e2, e3, e4⟩ := h.one
    subst e1 e2
    refine ⟨a, ws, rfl, .inl (.inl (.inl e3)), fun l nl => post.made hh nl ?_⟩
    simp only [RP]
    exact ⟨l, ws, rfl, upd_same, RPs.mono (sub_upd (hh.fresh nl)) _ _ e4⟩
  · simp only [Option.some.injEq] at e; subst e
    obtain ⟨v, e1, e2⟩ := h.one
    simp only [PK, RP] at e2
    obtain ⟨a, ws, e2, e3, e4⟩ := e2
    subst e1 e2
    refine ⟨a, ws, rfl, .inr (.inl (.inl (hh.sub _ _ e3))), fun l nl => post.made hh nl ?_⟩
    simp only [RP]
    exact ⟨l, ws, rfl, upd_same, RPs.mono (sub_upd (hh.fresh nl)) _ _ e4⟩
  · simp only [Option.some.injEq] at e; subst e
    obtain ⟨v, e1, e2⟩ := h.one
    simp only [PK, RP] at e2
    obtain ⟨a, e2, e3⟩ := e2
    subst e1 e2
    refine ⟨a, _, rfl, .inl (hh.sub.sqL e3), fun l nl => post.made hh nl ?_⟩
    simp only [RP]
    exact ⟨l, _, rfl, upd_same, RPs_ints _⟩
  · simp only [Option.map_eq_some_iff] at e
    obtain ⟨ns, e0, e1⟩ := e
    subst e1
    obtain ⟨v, e1, a, ws, e2, e3, e4⟩ := h.one
    subst e1 e2
    have := ints_vals e0 e4
    subst this
    exact ⟨a, ns, rfl, .inl (.inl e3), post.tree hh (by simp only [RP])⟩
  · simp only [Option.map_eq_some_iff] at e
    obtain ⟨ns, e0, e1⟩ := e
    subst e1
    obtain ⟨v, e1, a, ws, e2, e3, e4⟩ := h.one
    subst e1 e2
    have := bools_vals e0 e4
    subst this
    exact ⟨a, ns, rfl, .inl (.inl e3), post.tree hh (by simp only [RP])⟩
  · simp only [Option.map_eq_some_iff] at e
    obtain ⟨ns, e0, e1⟩ := e
    subst e1
    obtain ⟨v, e1, a, ws, e2, e3, e4⟩ := h.one
    subst e1 e2
    have := bools_vals e0 e4
    subst this
    exact ⟨a, ns, rfl, .inl (.inl e3), post.tree hh (by simp only [RP])⟩
  · cases e
end
end Z
end

section
/-! ZJ: the look that a def of the text is what the small AST says. -/
namespace Z
open PySem L2
/-- the defs (names, parameters), the constants of the module -/
structure Tab where
  defs : List (Str × Nat)
  glbs : List Str
structure SC where
  N : List Str
  sc : Scope
  fn : Str → Bool
  T : Tab
def gl? (g : SC) (x : Str) : Bool := decide (g.sc.names.lookup x = some .globalImplicit) && !(x == ("__debug__" : Str))
def vis? (g : SC) (x : Str) : Bool := (match g.sc.names.lookup x with
  | some .local | some .cell | some .free => true
  | _ => false) && !(x == ("__debug__" : Str)) && !(x == ("__classdict__" : Str))
def loc? (g : SC) (x : Str) : Bool := match g.sc.names.lookup x with
  | some .local => true
  | some .cell => g.fn x
  | _ => false
def isSet : Expr → Bool
  | .Set .. => true
  | _ => false
def isSlice : Expr → Bool
  | .Slice .. => true
  | _ => false
def isStar : Expr → Bool
  | .Starred .. => true
  | _ => false
def isComp : Expr → Bool
  | .ListComp .. | .SetComp .. | .DictComp .. => true
  | _ => false
/-- its test is its value's truth -/
def plainT : Expr → Bool
  | .UnaryOp .Not _ _ | .BoolOp .. | .IfExp .. | .Compare .. => false
  | _ => true
def litOk : PV → Const → Bool
  | .non, .none => true
  | .bl b, .bool c => b == c
  | .int i, .int j => i == j
  | .str s, .str x => decide (x = mkS s) && okS s
  | _, _ => false
def tyName : Ty → Str
  | .int => "int" | .bool => "bool" | .str => "str" | .list => "list" | .tuple => "tuple"
def bmName : BM → Str
  | .append => "append" | .get2 => "get"
def rangeN : Str := "range"
mutual
def chkG (g : SC) : MG → Expr → Bool
  | .nm i, e => (match e with
    | .Name x _ => decide (g.N[i]? = some x) && loc? g x
    | _ => false)
  | .tp gs, e => (match e with
    | .Tuple es _ _ => chkGs g gs es
    | _ => false)
def chkGs (g : SC) : List MG → List Expr → Bool
  | [], es => es.isEmpty
  | x :: xs, es => (match es with
    | e :: es => chkG g x e && !isStar e && chkGs g xs es
    | [] => false)
end
mutual
def slotsG : MG → List Nat
  | .nm i => [i]
  | .tp gs => slotsGs gs
def slotsGs : List MG → List Nat
  | [] => []
  | g :: gs => slotsG g ++ slotsGs gs
end
def opD (o p : Operator) : Bool := decide (o = p)
def comps : List Comprehension → Option (Expr × Expr × List Expr)
  | [⟨t, it, is, a⟩] => if a = 0 then some (t, it, is) else none
  | _ => none
def ownOf (N : List Str) : List Nat → Option (List (Str × Nat))
  | [] => some []
  | i :: r => match N[i]? with
    | some x => (ownOf N r).map ((x, i) :: ·)
    | none => none
def SC.blk (g : SC) (scope : Scope) : SC := { g with sc := relS scope g.sc, fn := fun x => decide (scope.names.lookup x = some .cell) }
/-- what is looked at of an iterable -/
def srcOf (g : SC) (ik : IK) (e : Expr) : Option (List Expr) := match ik with
  | .val => if isSet e then none else some [e]
  | .range => match e with
    | .Call (.Name f _) xs [] _ => if decide (f = rangeN) && gl? g f && decide (1 ≤ xs.length) && decide (xs.length ≤ 3) then some xs else none
    | _ => none
mutual
def chkE (g : SC) : ME → Expr → Bool
  | .var i, e => (match e with
    | .Name x _ => decide (g.N[i]? = some x) && vis? g x
    | _ => false)
  | .lit p, e => (match e with
    | .Constant c _ _ => litOk p c
    | _ => false)
  | .glb k, e => (match e with
    | .Name x _ => decide (g.T.glbs[k]? = some x) && gl? g x
    | _ => false)
  | .tup es, e => (match e with
    | .Tuple xs _ _ => chkEs g es xs
    | _ => false)
  | .lst _ es, e => (match e with
    | .List xs _ => chkEs g es xs
    | _ => false)
  | .dnew _, e => (match e with
    | .Dict [] [] _ => true
    | _ => false)
  | .bin op a b, e => (match e with
    | .BinOp x o y _ => decide (o = opB op) && chkE g a x && chkE g b y
    | _ => false)
  | .cmp op a b, e => (match e with
    | .Compare x [o] [y] _ => decide (o = opC op) && !isSet y && chkE g a x && chkE g b y
    | _ => false)
  | .boolop c es, e => (match e with
    | .BoolOp o xs _ => decide (o = if c then BoolOp.And else BoolOp.Or) && !es.isEmpty && chkEs g es xs
    | _ => false)
  | .not t, e => (match e with
    | .UnaryOp .Not x _ => chkE g t x
    | _ => false)
  | .neg a, e => (match e with
    | .UnaryOp .USub x _ => chkE g a x
    | _ => false)
  | .ite c a b, e => (match e with
    | .IfExp c' a' b' _ => chkT g c c' && chkE g a a' && chkE g b b'
    | _ => false)
  | .idx a i, e => (match e with
    | .Subscript x y _ => !isSlice y && chkE g a x && chkE g i y
    | _ => false)
  | .slc a l lo h hi, e => (match e with
    | .Subscript x (.Slice le ue none _) _ => chkE g a x && (match le with
      | some e => l && chkE g lo e
      | none => !l) && (match ue with
      | some e => h && chkE g hi e
      | none => !h)
    | _ => false)
  | .isn neg a, e => (match e with
    | .Compare x [o] [.Constant .none _ _] _ => decide (o = if neg then CmpOp.IsNot else CmpOp.Is) && chkE g a x
    | _ => false)
  | .isi t a, e => (match e with
    | .Call (.Name f _) [x, .Name ty _] [] _ => decide (f = "isinstance") && decide (ty = tyName t) && gl? g f && gl? g ty && !isStar x && chkE g a x
    | _ => false)
  | .bi b es, e => (match e with
    | .Call (.Name f _) xs [] _ => decide (f = biName b) && gl? g f && !es.isEmpty && chkEs g es xs
    | _ => false)
  | .bm m r es, e => (match e with
    | .Call (.Attribute o a apos) xs [] cpos => decide (a = bmName m) && chkE g r o && !es.isEmpty && decide (es.length < 20) && (apos.endLine == cpos.line) && (match o with
      | .Call _ [] _ _ => false
      | _ => true) && chkEs g es xs
    | _ => false)
  | .call f es, e => (match e with
    | .Call (.Name x _) xs [] _ => decide (g.T.defs[f]? = some (x, es.length)) && gl? g x && !es.isEmpty && chkEs g es xs
    | _ => false)
  | .lc _ elt tg ik src ifs own, e => (match e with
    | .ListComp e gs scope _ => (match comps gs, ownOf g.N own with
      | some (t, it, is), some ow => (match srcOf g ik it with
        | some xs => blkC g.N g.sc scope ow && (slotsG tg).all (own.contains ·) && chkG (g.blk scope) tg t && chkEs g src xs && chkIfs (g.blk scope) ifs is && chkE (g.blk scope) elt e
        | none => false)
      | _, _ => false)
    | _ => false)
  | .frz a, e => chkE g a e
def chkEs (g : SC) : List ME → List Expr → Bool
  | [], es => es.isEmpty
  | m :: ms, es => (match es with
    | e :: es => !isStar e && chkE g m e && chkEs g ms es
    | [] => false)
def chkIfs (g : SC) : List MT → List Expr → Bool
  | [], es => es.isEmpty
  | t :: ts, es => (match ts, es with
    | [], [e] => chkT g t e
    | _, _ => false)
def chkT (g : SC) : MT → Expr → Bool
  | .val m, e => plainT e && chkE g m e
  | .cmp op a b, e => (match e with
    | .Compare x [o] [y] _ => decide (o = opC op) && !isSet y && chkE g a x && chkE g b y
    | _ => false)
  | .isn neg a, e => (match e with
    | .Compare x [o] [.Constant .none _ _] _ => decide (o = if neg then CmpOp.IsNot else CmpOp.Is) && chkE g a x
    | _ => false)
  | .boolop c ts, e => (match e with
    | .BoolOp o xs _ => decide (o = if c then BoolOp.And else BoolOp.Or) && !ts.isEmpty && chkTs g ts xs
    | _ => false)
  | .not t, e => (match e with
    | .UnaryOp .Not x _ => chkT g t x
    | _ => false)
def chkTs (g : SC) : List MT → List Expr → Bool
  | [], es => es.isEmpty
  | t :: ts, es => (match es with
    | e :: es => chkT g t e && chkTs g ts es
    | [] => false)
end
end Z
end

section
/-! ZK: shapes of the text, targets, what is walked. -/
namespace Z
open PySem PySem.Spec PyProof.Rows L2
/-! ### shapes -/
theorem noSet {e : Expr} (h : isSet e = false) (op : CmpOp) : behindInMarks op e = false := by
  cases e <;> simp [isSet] at h <;> simp [behindInMarks]
theorem noFold {e : Expr} (h : isSet e = false) (env : Env) : ∀ x, foldedSetIterable e env x = pure x := by
  intro x
  cases e <;> simp [isSet] at h <;> rfl
theorem star_each {e : Expr} {es : List Expr} {env : Env} (h : isStar e = false) : starEach (e :: es) env = (false, eval e env) :: starEach es env := by
  cases e <;> simp [isStar] at h <;> rfl
theorem star_plain {env : Env} {pos : Pos} : ∀ {es : List Expr}, (es.all fun e => !isStar e) = true → (backTo pos (starEach es env)).any (·.1) = false
  | [], _ => by simp [starEach, backTo]
  | e :: es, h => by
    simp only [List.all_cons, Bool.and_eq_true, Bool.not_eq_true'] at h
    rw [star_each h.1]
    show (false || (backTo pos (starEach es env)).any (·.1)) = false
    rw [star_plain h.2]; rfl
theorem chkEs_star {g : SC} : ∀ {ms : List ME} {es : List Expr}, chkEs g ms es = true → (es.all fun e => !isStar e) = true
  | [], es, h => by
    simp only [chkEs, List.isEmpty_iff] at h
    subst h; rfl
  | m :: ms, [], h => by simp [chkEs] at h
  | m :: ms, e :: es, h => by
    simp only [chkEs, Bool.and_eq_true] at h
    simp only [List.all_cons, Bool.and_eq_true]
    exact ⟨h.1.1, chkEs_star h.2⟩
theorem chkEs_len {g : SC} : ∀ {ms : List ME} {es : List Expr}, chkEs g ms es = true → ms.length = es.length
  | [], es, h => by
    simp only [chkEs, List.isEmpty_iff] at h
    subst h; rfl
  | m :: ms, [], h => by simp [chkEs] at h
  | m :: ms, e :: es, h => by
    simp only [chkEs, Bool.and_eq_true] at h
    simp [chkEs_len h.2]
theorem asg_each {e : Expr} {es : List Expr} {env : Env} (h : isStar e = false) : assignEach (e :: es) env = (false, assign e env) :: assignEach es env := by
  cases e <;> simp [isStar] at h <;> rfl
theorem chkGs_star {g : SC} : ∀ {ms : List MG} {es : List Expr}, chkGs g ms es = true → (es.all fun e => !isStar e) = true ∧ ms.length = es.length
  | [], es, h => by
    simp only [chkGs, List.isEmpty_iff] at h
    subst h; exact ⟨rfl, rfl⟩
  | m :: ms, [], h => by simp [chkGs] at h
  | m :: ms, e :: es, h => by
    simp only [chkGs, Bool.and_eq_true] at h
    obtain ⟨h1, h2⟩ := chkGs_star h.2
    simp only [List.all_cons, Bool.and_eq_true]
    exact ⟨⟨h.1.2, h1⟩, by simp [h2]⟩
theorem asg_len {env : Env} : ∀ {es : List Expr}, (es.all fun e => !isStar e) = true → (assignEach es env).length = es.length ∧ (assignEach es env).findIdx? (·.1) = none
  | [], _ => by simp [assignEach]
  | e :: es, h => by
    simp only [List.all_cons, Bool.and_eq_true, Bool.not_eq_true'] at h
    rw [asg_each h.1]
    obtain ⟨h1, h2⟩ := asg_len (env := env) h.2
    exact ⟨by simp [h1], by simp [List.findIdx?_cons, h2]⟩
theorem noSwap {e : Expr} {t : Option Expr} {l : Nat} {env : Env} (h : isComp e = false) : swapsWith e t l env = pure false := by
  cases e <;> simp [isComp] at h <;> rfl
theorem plainIx {e : Expr} (h : isSlice e = false) : PlainIx e := by
  intro o i
  cases e <;> simp [isSlice] at h <;> rfl
theorem plain_true {e : Expr} {env : Env} (h : plainT e = true) (whole : PySem.Sem Value) : isTrue e env whole = (do let v ← whole; standAt e.pos; holding [v] (truthy v)) := by
  cases e <;> simp [plainT] at h <;> try rfl
  rename_i op x pos
  cases op <;> simp at h <;> rfl

/-! ### the context of a body -/
structure Cok (X : Cx) (g : SC) (M : Nm) (S : Sem) (W : WX) (k : Nat) : Prop where
  N : X.N = g.N
  sc : X.env.scope = g.sc
  fn : ∀ x, g.fn x = true → X.fn x = true
  nd : X.N.Nodup
  calm : X.calm = true
  hr : Room k X.A
  un : room2 X
  bi : ∀ b : BI, X.mg (biName b) = none
  bt : ∀ t : Ty, X.mg (tyName t) = none
  br : X.mg rangeN = none
  bis : X.mg "isinstance" = none
  glb : ∀ (i : Nat) (x : Str) (p : PV), g.T.glbs[i]? = some x → S.glb i = some p → ∃ u v, X.mg x = some u ∧ L2.RelV v u ∧ flat p = true ∧ RP X.K (fun _ => none) p v
  calls : ∀ (f : Nat) (x : Str) (n : Nat), g.T.defs[f]? = some (x, n) → ∃ (a : Addr) (fd : FuncData) (ps : List Str), FnOk X.prog X.w X.K X.mg X.base (L2.CX X.prog X.w) k a fd ps (spOf M X.K (S.cal f) n) ∧ X.mg x = some (.ref a) ∧
    PySem.W.keepIn X.K (.ref a) = true ∧ Binds X.K fd ps []
  takes : Takes X W
  pass : PassesOwn (model X.prog X.w) X.A X.env X.xe
section
variable {X : Cx} {g : SC} {M : Nm} {S : Sem} {W : WX} {k : Nat}
theorem Cok.gl (C : Cok X g M S W k) {x : Str} (h : gl? g x = true) : Gl X x ∧ (x == ("__debug__" : Str)) = false := by
  simp only [gl?, Bool.and_eq_true, decide_eq_true_eq, Bool.not_eq_true'] at h
  exact ⟨show X.env.scope.names.lookup x = _ by rw [C.sc]; exact h.1, h.2⟩
theorem Cok.vis (C : Cok X g M S W k) {x : Str} (h : vis? g x = true) : Vis X.env.scope x ∧ (x == ("__debug__" : Str)) = false ∧ (x == ("__classdict__" : Str)) = false := by
  simp only [vis?, Bool.and_eq_true, Bool.not_eq_true'] at h
  refine ⟨?_, h.1.2, h.2⟩
  have h1 := h.1.1
  unfold Vis
  rw [C.sc]
  split at h1
  · exact .inl (by assumption)
  · exact .inr (.inl (by assumption))
  · exact .inr (.inr (by assumption))
  · cases h1
theorem Cok.loc (C : Cok X g M S W k) {x : Str} (h : loc? g x = true) : L2.Loc X.env.scope x ∧ (X.fn x = true ∨ X.env.scope.names.lookup x = some .local) := by
  unfold loc? at h
  unfold L2.Loc
  rw [C.sc]
  split at h
  · exact ⟨.inl (by assumption), .inr (by assumption)⟩
  · exact ⟨.inr (by assumption), .inl (C.fn x h)⟩
  · cases h

/-! ### targets -/
theorem wipe_get (σ : L2.St) (i : Nat) : ∀ vs : List Nat, (wipe σ vs)[i]? = if i ∈ vs then (if i < σ.length then some none else none) else σ[i]?
  | [] => by simp [wipe]
  | v :: vs => by
    have ih := wipe_get σ i vs
    unfold wipe
    by_cases hv : v = i
    · subst hv
      rw [if_pos List.mem_cons_self]
      by_cases hl : v < σ.length
      · rw [if_pos hl, List.getElem?_set_self (by rw [wipe_length]; exact hl)]
      · rw [if_neg hl, List.getElem?_eq_none (by rw [List.length_set, wipe_length]; omega)]
    · rw [List.getElem?_set_ne hv, ih]
      have : (i ∈ v :: vs) ↔ i ∈ vs := by
        rw [List.mem_cons]
        exact ⟨fun h => h.elim (fun e => absurd e.symm hv) (fun x => x), .inr⟩
      by_cases hm : i ∈ vs
      · rw [if_pos hm, if_pos (this.mpr hm)]
      · rw [if_neg hm, if_neg (fun h => hm (this.mp h))]
theorem wipe_eq {σ τ : L2.St} {vs : List Nat} (hl : σ.length = τ.length) (h : ∀ i, i ∉ vs → σ[i]? = τ[i]?) : wipe σ vs = wipe τ vs := by
  apply List.ext_getElem?
  intro i
  rw [wipe_get, wipe_get, hl]
  split
  · rfl
  · exact h i (by assumption)
theorem wipe_set {σ : L2.St} {i : Nat} {x : Option V} {vs : List Nat} (h : i ∈ vs) : wipe (σ.set i x) vs = wipe σ vs :=
  wipe_eq (by simp) fun j hj => List.getElem?_set_ne fun e : i = j => hj (by rw [← e]; exact h)
theorem wipe_wipe {σ : L2.St} {vs : List Nat} : wipe (wipe σ vs) vs = wipe σ vs :=
  wipe_eq (wipe_length σ vs) fun i hi => by rw [wipe_get, if_neg hi]
theorem wipeL_get (φ : Slots) (i : Nat) : ∀ vs : List Nat, (wipeL φ vs)[i]? = if i ∈ vs then (if i < φ.length then some none else none) else φ[i]?
  | [] => by simp [wipeL]
  | v :: vs => by
    have ih := wipeL_get φ i vs
    have wl : ∀ vs : List Nat, (wipeL φ vs).length = φ.length := by
      intro vs
      induction vs with
      | nil => rfl
      | cons v vs ih => unfold wipeL; rw [List.length_set, ih]
    unfold wipeL
    by_cases hv : v = i
    · subst hv
      rw [if_pos List.mem_cons_self]
      by_cases hl : v < φ.length
      · rw [if_pos hl, List.getElem?_set_self (by rw [wl]; exact hl)]
      · rw [if_neg hl, List.getElem?_eq_none (by rw [List.length_set, wl]; omega)]
    · rw [List.getElem?_set_ne hv, ih]
      have : (i ∈ v :: vs) ↔ i ∈ vs := by
        rw [List.mem_cons]
        exact ⟨fun h => h.elim (fun e => absurd e.symm hv) (fun x => x), .inr⟩
      by_cases hm : i ∈ vs
      · rw [if_pos hm, if_pos (this.mpr hm)]
      · rw [if_neg hm, if_neg (fun h => hm (this.mp h))]
theorem wipeL_length (φ : Slots) : ∀ vs : List Nat, (wipeL φ vs).length = φ.length
  | [] => rfl
  | v :: vs => by unfold wipeL; rw [List.length_set, wipeL_length φ vs]
theorem SL.wipe {K : PySem.W.Frag} {F : Hp} {ρ : List Addr} {σ : L2.St} {φ : Slots} (h : SL K F ρ σ φ) (vs : List Nat) : SL K F ρ (wipe σ vs) (wipeL φ vs) := by
  refine ⟨by rw [wipe_length, wipeL_length]; exact h.1, fun i x hx => ?_⟩
  rw [wipeL_get] at hx
  rw [wipe_get]
  split at hx
  · split at hx
    · cases hx
    · cases hx
  · rename_i hm
    rw [if_neg hm]
    exact h.2 i x hx
def Ownly (is : List Nat) (σ σ' : L2.St) : Prop := ∀ vs : List Nat, (∀ i ∈ is, i ∈ vs) → wipe σ' vs = wipe σ vs
def RdG (M : Nm) (K : PySem.W.Frag) (t : TG) (m : MG) : Prop := ∀ x v φ φ' σ F ρ H st Q, HR' M K F ρ H st → SL K F ρ σ φ → RL K F ρ x v → asgG m x φ = some φ' → (∀ σ', SL K F ρ σ' φ' → Ownly (slotsG m) σ σ' → Q σ' H) → t v σ H Q
def RdGs (M : Nm) (K : PySem.W.Frag) (t : TGs) (m : List MG) : Prop := ∀ xs vs φ φ' σ F ρ H st Q, HR' M K F ρ H st → SL K F ρ σ φ → RLs K F ρ xs vs → asgGs m xs φ = some φ' → (∀ σ', SL K F ρ σ' φ' → Ownly (slotsGs m) σ σ' → Q σ' H) → t vs σ H Q
theorem pg_or {tg : Expr} {t t' : TG} (h : PG X tg t) (h' : PG X tg t') : PG X tg (fun v σ H Q => t v σ H Q ∨ t' v σ H Q) := ⟨fun pins s σ H v u Q I r q => by
  rcases q with q | q
  · exact h.run pins s σ H v u Q I r q
  · exact h'.run pins s σ H v u Q I r q⟩
mutual
theorem tgt (C : Cok X g M S W k) : ∀ (m : MG) (e : Expr), chkG g m e = true → ∃ t, PG X e t ∧ RdG M X.K t m
  | .nm i, e, h => by
    cases e <;> simp only [chkG, Bool.and_eq_true, decide_eq_true_eq, reduceCtorEq] at h
    obtain ⟨hl, hf⟩ := C.loc h.2
    refine ⟨_, pg_name (i := i) C.nd (by rw [C.N]; exact h.1) hl hf, ?_⟩
    intro x v φ φ' σ F ρ H st Q hh hs r e q
    simp only [asgG, Option.some.injEq] at e
    subst e
    exact q _ (hs.set i r) fun vs hv => wipe_set (hv i (by simp [slotsG]))
  | .tp ms, e, h => by
    cases e <;> simp only [chkG, reduceCtorEq] at h
    rename_i es kk pos
    obtain ⟨t, ht, hr⟩ := tgts C ms es h
    obtain ⟨h1, h2⟩ := chkGs_star h
    obtain ⟨l1, l2⟩ := asg_len (env := X.env) h1
    refine ⟨_, pg_or (pg_tup C.calm ht rfl l2) (pg_lst C.calm ht rfl l2), ?_⟩
    intro x v φ φ' σ F ρ H st Q hh hs r e q
    have len : ∀ (ms : List MG) (xs : List LV) (φ φ' : Slots), asgGs ms xs φ = some φ' → xs.length = ms.length := by
      intro ms
      induction ms with
      | nil => intro xs φ φ' e; cases xs <;> simp [asgGs] at e ⊢
      | cons m ms ih =>
        intro xs φ φ' e
        cases xs with
        | nil => simp [asgGs] at e
        | cons x xs =>
          unfold asgGs at e
          split at e
          · simp [ih _ _ _ e]
          · cases e
    have go : ∀ (xs : List LV) (vs : List V), RLs X.K F ρ xs vs → asgGs ms xs φ = some φ' → vs.length = (assignEach es X.env).length ∧ t vs σ H Q := fun xs vs rl e => by
      refine ⟨by rw [l1, ← rl.length, len _ _ _ _ e, h2], ?_⟩
      exact hr xs vs φ φ' σ F ρ H st Q hh hs rl e fun σ1 h1 h2 => q σ1 h1 (by simpa only [slotsG] using h2)
    cases x with
    | ref n => simp [asgG] at e
    | tup xs =>
      simp only [asgG] at e
      simp only [RL] at r
      obtain ⟨a, vs, e1, e2, e3⟩ := r
      obtain ⟨g1, g2⟩ := go xs vs e3 e
      exact .inl ⟨a, vs, e1, .inl (.inl (hh.sub _ _ e2)), g1, g2⟩
    | pv p =>
      cases p <;> simp only [asgG, reduceCtorEq] at e
      · simp only [RL, RP] at r
        obtain ⟨a, vs, e1, e2, e3⟩ := r
        obtain ⟨g1, g2⟩ := go _ vs (RLs_pv.mpr e3) e
        exact .inl ⟨a, vs, e1, .inl (.inl (hh.sub _ _ e2)), g1, g2⟩
      · simp only [RL, RP] at r
        obtain ⟨a, vs, e1, e2, e3⟩ := r
        obtain ⟨g1, g2⟩ := go _ vs (RLs_pv.mpr e3) e
        exact .inr ⟨a, vs, e1, .inl (.inl (hh.sub _ _ e2)), g1, g2⟩
theorem tgts (C : Cok X g M S W k) : ∀ (ms : List MG) (es : List Expr), chkGs g ms es = true → ∃ t, PGs X es t ∧ RdGs M X.K t ms
  | [], es, h => by
    simp only [chkGs, List.isEmpty_iff] at h
    subst h
    refine ⟨_, pgs_nil, ?_⟩
    intro xs vs φ φ' σ F ρ H st Q hh hs r e q
    cases xs with
    | nil =>
      simp only [asgGs, Option.some.injEq] at e
      subst e
      simp only [RLs] at r
      exact ⟨r, q σ hs fun _ _ => rfl⟩
    | cons _ _ => simp [asgGs] at e
  | m :: ms, [], h => by simp [chkGs] at h
  | m :: ms, e :: es, h => by
    simp only [chkGs, Bool.and_eq_true, Bool.not_eq_true'] at h
    obtain ⟨t, ht, hr⟩ := tgt C m e h.1.1
    obtain ⟨t', ht', hr'⟩ := tgts C ms es h.2
    refine ⟨_, pgs_cons ht ht' (by rw [asg_each h.1.2]; rfl), ?_⟩
    intro xs vs φ φ' σ F ρ H st Q hh hs r e q
    cases xs with
    | nil => simp [asgGs] at e
    | cons x xs =>
      simp only [RLs] at r
      obtain ⟨v, r', e1, e2, e3⟩ := r
      unfold asgGs at e
      split at e
      · rename_i φ1 e4
        refine ⟨v, r', e1, hr x v φ φ1 σ F ρ H st _ hh hs e2 e4 fun σ1 hs1 o1 => ?_⟩
        exact hr' xs r' φ1 φ' σ1 F ρ H st Q hh hs1 e3 e fun σ2 hs2 o2 => q σ2 hs2 fun us hu => by
          rw [o2 us fun i hi => hu i (by simp [slotsGs, hi]), o1 us fun i hi => hu i (by simp [slotsGs, hi])]
      · cases e
end
end
end Z
end

section
/-! ZL: lists of expressions, what is walked. -/
namespace Z
open PySem PySem.Spec PyProof.Rows L2
section
variable (X : Cx) (M : Nm) (S : Sem) (W : WX)
def SE (m : ME) (e : Expr) : Prop := ∃ t, PE X e t ∧ RdE M X.K W t (evE S m)
def ST (m : MT) (e : Expr) : Prop := ∃ t, PT X e t ∧ RdT M X.K W t (evT S m)
def SEs : List ME → List Expr → Prop
  | [], es => es = []
  | m :: ms, es => ∃ e r, es = e :: r ∧ isStar e = false ∧ SE X M S W m e ∧ SEs ms r
def STs : List MT → List Expr → Prop
  | [], es => es = []
  | m :: ms, es => ∃ e r, es = e :: r ∧ ST X M S W m e ∧ STs ms r
end
section
variable {X : Cx} {M : Nm} {S : Sem} {W : WX}
theorem SEs.pa : ∀ {ms : List ME} {es : List Expr}, SEs X M S W ms es → ∃ t, PA X es t ∧ RdA M X.K W t (evEs S ms)
  | [], es, h => by
    have h' : es = [] := h
    subst h'
    refine ⟨_, pa_nil, ?_⟩
    intro σ H Q φ F ρ st r hh hs e p
    simp only [evEs, Option.some.injEq] at e
    subst e
    exact p F ρ H [] (G.refl F ρ H) hh (by simp only [RLs])
  | m :: ms, es, h => by
    obtain ⟨e, r, h1, h2, ⟨t, h3, h4⟩, h5⟩ := h
    subst h1
    obtain ⟨t', h6, h7⟩ := SEs.pa h5
    refine ⟨_, pa_cons h3 h6 (star_each h2), ?_⟩
    intro σ H Q φ F ρ st res hh hs e p
    simp only [evEs] at e
    refine h4.bindA hh hs e p fun x st1 F1 ρ1 H1 v e1 g1 h1 r1 p1 => ?_
    refine h7.bindA h1 (hs.g g1) e1 p1 fun xs st2 F2 ρ2 H2 vs e2 g2 h2 r2 p2 => ?_
    simp only [Option.some.injEq] at e2
    subst e2
    exact p2 F2 ρ2 H2 (v :: vs) (G.refl F2 ρ2 H2) h2 (by
      simp only [RLs]
      exact ⟨v, vs, rfl, RL.mono g2.sub g2.pre _ _ r1, r2⟩)
theorem SEs.star : ∀ {ms : List ME} {es : List Expr}, SEs X M S W ms es → (es.all fun e => !isStar e) = true
  | [], es, h => by
    have h' : es = [] := h
    subst h'; rfl
  | m :: ms, es, h => by
    obtain ⟨e, r, h1, h2, _, h5⟩ := h
    subst h1
    simp [h2, SEs.star h5]
theorem SEs.len : ∀ {ms : List ME} {es : List Expr}, SEs X M S W ms es → ms.length = es.length
  | [], es, h => by
    have h' : es = [] := h
    subst h'; rfl
  | m :: ms, es, h => by
    obtain ⟨e, r, h1, h2, _, h5⟩ := h
    subst h1
    simp [SEs.len h5]
end

/-! ### what is walked -/
/-- an iterator over trees that lie in F -/
structure ItOk (K : PySem.W.Frag) (J : It) (xs : List PV) (F : Hp) : Prop where
  at_ : ∀ (i : Nat) (p : PV) (F' H' : Hp), xs[i]? = some p → Sub F F' → Sub F' H' → J.go i H' ∧ ∀ x H'', J.yld i H' x H'' → (H'' = H' ∧ RP K F' p x) ∨ ∃ T o, H' T = none ∧ H'' = upd H' T o ∧ RP K (upd F' T o) p x
  stop : ∀ F' H', Sub F F' → Sub F' H' → J.stop xs.length H'
def iSeq (K : PySem.W.Frag) (tl : TE) : TI := fun σ H R => tl σ H fun x H1 => ∃ a, x = .ref a ∧ (((∃ xs, SqL K H1 a xs) ∧ R (Itl K a) H1) ∨ ((∃ xs, SqT K H1 a xs) ∧ R (Itt K a) H1))
section
variable {X : Cx} {tg : Expr}
theorem pi_seq {l : Expr} {tl : TE} (hl : PE X l tl) : PI X tg l (iSeq X.K tl) := by
  refine ⟨fun pins s σ H R I h => ?_⟩
  refine thn (hl.run pins s σ H _ I h) fun v s1 ⟨x, H1, I1, r1, q1⟩ => ?_
  obtain ⟨a, e, q⟩ := q1
  subst e
  cases r1
  rcases q with ⟨⟨xs, hq⟩, q⟩ | ⟨⟨xs, hq⟩, q⟩
  · obtain ⟨its, rv, p, hz⟩ := I1.list hq
    refine wpAny_pyIter_list p.isList ?_
    refine ⟨s1.heap.objs.size, [s1.heap.objs.size], _, _, H1, rfl, I1.kept (t' := s1.toks) fun b o e => Heap.get?_push_of_some _ e, turn_list a _, ⟨_, Heap.get?_push_size _ rfl, rfl, rfl⟩, fun b hb => ?_, q⟩
    have e : b = s1.heap.objs.size := by simpa using hb
    subst e
    exact I1.fpOk (Nat.le_refl _) (I1.hok.fresh (Nat.le_refl _))
  · obtain ⟨its, rv, p, hz⟩ := I1.tuple hq
    refine wpAny_pyIter_tuple (show s1.heap.IsTuple a its.toArray from p) ?_
    refine ⟨s1.heap.objs.size, [s1.heap.objs.size], _, _, H1, rfl, I1.kept (t' := s1.toks) fun b o e => Heap.get?_push_of_some _ e, turn_tuple a _, ⟨_, Heap.get?_push_size _ rfl, rfl, rfl⟩, fun b hb => ?_, q⟩
    have e : b = s1.heap.objs.size := by simpa using hb
    subst e
    exact I1.fpOk (Nat.le_refl _) (I1.hok.fresh (Nat.le_refl _))
end
section
variable {K : PySem.W.Frag} {F F' H H' : Hp}
theorem it_list {a : Addr} {vs : List V} {xs : List PV} (h : F a = some (.lst vs)) (r : RPs K F xs vs) : ItOk K (Itl K a) xs F := by
  refine ⟨fun i p F' H' e s s' => ?_, fun F' H' s s' => ⟨vs, .inl (.inl (s' _ _ (s _ _ h))), by rw [r.length]; exact Nat.le_refl _⟩⟩
  have hq : SqL K H' a vs := .inl (.inl (s' _ _ (s _ _ h)))
  obtain ⟨v, e1, e2⟩ := r.get e
  refine ⟨⟨vs, v, hq, e1⟩, fun x H'' y => .inl ⟨y.1, ?_⟩⟩
  have := y.2 vs hq
  rw [e1] at this
  cases this
  exact RP.mono s _ _ e2
theorem it_tup {a : Addr} {vs : List V} {xs : List PV} (h : F a = some (.tup vs)) (r : RPs K F xs vs) : ItOk K (Itt K a) xs F := by
  refine ⟨fun i p F' H' e s s' => ?_, fun F' H' s s' => ⟨vs, .inl (.inl (s' _ _ (s _ _ h))), by rw [r.length]; exact Nat.le_refl _⟩⟩
  have hq : SqT K H' a vs := .inl (.inl (s' _ _ (s _ _ h)))
  obtain ⟨v, e1, e2⟩ := r.get e
  refine ⟨⟨vs, v, hq, e1⟩, fun x H'' y => .inl ⟨y.1, ?_⟩⟩
  have := y.2 vs hq
  rw [e1] at this
  cases this
  exact RP.mono s _ _ e2
theorem upto_len (lo : Int) : ∀ n, (upto lo n).length = n
  | 0 => rfl
  | n + 1 => by simp [upto, upto_len]
theorem upto_get (lo : Int) : ∀ (n i : Nat), i < n → (upto lo n)[i]? = some (lo + i)
  | 0, i, h => absurd h (Nat.not_lt_zero i)
  | n + 1, 0, _ => by simp [upto]
  | n + 1, i + 1, h => by
    rw [upto, List.getElem?_cons_succ, upto_get (lo + 1) n i (by omega)]
    congr 1
    omega
theorem downto_len (lo : Int) : ∀ n, (downto lo n).length = n
  | 0 => rfl
  | n + 1 => by simp [downto, downto_len]
theorem downto_get (lo : Int) : ∀ (n i : Nat), i < n → (downto lo n)[i]? = some (lo + (i : Int) * (-1))
  | 0, i, h => absurd h (Nat.not_lt_zero i)
  | n + 1, 0, _ => by simp [downto]
  | n + 1, i + 1, h => by
    rw [downto, List.getElem?_cons_succ, downto_get (lo - 1) n i (by omega)]
    congr 1
    omega
theorem it_range (lo : Int) (n : Nat) : ItOk K (Itr lo n) ((upto lo n).map .int) F := by
  refine ⟨fun i p F' H' e s s' => ?_, fun F' H' s s' => by show n ≤ _; rw [List.length_map, upto_len]; exact Nat.le_refl _⟩
  have hi : i < n := by
    have := (List.getElem?_eq_some_iff.mp e).1
    rwa [List.length_map, upto_len] at this
  refine ⟨hi, fun x H'' y => .inl ⟨y.1, ?_⟩⟩
  rw [List.getElem?_map, upto_get lo n i hi] at e
  simp only [Option.map_some, Option.some.injEq] at e
  subst e
  simp only [RP]
  exact y.2
theorem it_down (lo : Int) (n : Nat) : ItOk K (Itc lo (-1) n) ((downto lo n).map .int) F := by
  refine ⟨fun i p F' H' e s s' => ?_, fun F' H' s s' => by show n ≤ _; rw [List.length_map, downto_len]; exact Nat.le_refl _⟩
  have hi : i < n := by
    have := (List.getElem?_eq_some_iff.mp e).1
    rwa [List.length_map, downto_len] at this
  refine ⟨hi, fun x H'' y => .inl ⟨y.1, ?_⟩⟩
  rw [List.getElem?_map, downto_get lo n i hi] at e
  simp only [Option.map_some, Option.some.injEq] at e
  subst e
  simp only [RP]
  exact y.2
end
/-- the reading of an iterable -/
def RdI (M : Nm) (K : PySem.W.Frag) (W : WX) (S : Sem) (wi : TI) (ik : IK) (src : List ME) : Prop := ∀ σ H R φ F ρ st, HR' M K F ρ H st → SL K F ρ σ φ →
  (∀ vs st1 ps xs, evEs S src φ st = some (.ok vs st1) → unpv vs = some ps → items ik ps = some xs → (∀ F1 ρ1 H1 J, G F ρ H F1 ρ1 H1 → HR' M K F1 ρ1 H1 st1 → ItOk K J xs F1 → R J H1) → wi σ H R) ∧
  (∀ e st1, evEs S src φ st = some (.ex e st1) → (∀ F' ρ' H' cls d, G F ρ H F' ρ' H' → HR' M K F' ρ' H' st1 → RX M K F' H' e cls d → W cls d σ H') → wi σ H R)
theorem rangeOk_ok {i : Int} (h : rangeOk i = true) : -(2 ^ 62) ≤ i ∧ i < 2 ^ 62 := by
  simpa [rangeOk] using h
section
variable {X : Cx} {g : SC} {M : Nm} {S : Sem} {W : WX} {k : Nat}
theorem one_ok {m : ME} {φ : Slots} {st st1 : Store} {vs : List LV} (e : evEs S [m] φ st = some (.ok vs st1)) : ∃ v, vs = [v] ∧ evE S m φ st = some (.ok v st1) := by
  simp only [evEs] at e
  cases q : evE S m φ st with
  | none => rw [q] at e; cases e
  | some r =>
    rw [q] at e
    cases r with
    | ok v st2 =>
      simp only [R.bs, Rs.bs, Option.some.injEq, ERs.ok.injEq] at e
      obtain ⟨e1, e2⟩ := e
      subst e1 e2
      exact ⟨v, rfl, rfl⟩
    | ex x st2 => simp [R.bs] at e
theorem one_ex {m : ME} {φ : Slots} {st st1 : Store} {x : Ex} (e : evEs S [m] φ st = some (.ex x st1)) : evE S m φ st = some (.ex x st1) := by
  simp only [evEs] at e
  cases q : evE S m φ st with
  | none => rw [q] at e; cases e
  | some r =>
    rw [q] at e
    cases r with
    | ok v st2 => simp [R.bs, Rs.bs] at e
    | ex y st2 =>
      simp only [R.bs, Option.some.injEq, ERs.ex.injEq] at e
      obtain ⟨e1, e2⟩ := e
      subst e1 e2
      rfl
theorem evEs_len : ∀ {ms : List ME} {φ : Slots} {st st1 : Store} {vs : List LV}, evEs S ms φ st = some (.ok vs st1) → vs.length = ms.length
  | [], φ, st, st1, vs, e => by
    simp only [evEs, Option.some.injEq, ERs.ok.injEq] at e
    rw [← e.1]; rfl
  | m :: ms, φ, st, st1, vs, e => by
    simp only [evEs] at e
    cases q : evE S m φ st with
    | none => rw [q] at e; cases e
    | some r =>
      rw [q] at e
      cases r with
      | ex x st2 => simp [R.bs] at e
      | ok v st2 =>
        simp only [R.bs] at e
        cases q2 : evEs S ms φ st2 with
        | none => rw [q2] at e; cases e
        | some r2 =>
          rw [q2] at e
          cases r2 with
          | ex x st3 => simp [Rs.bs] at e
          | ok vs2 st3 =>
            simp only [Rs.bs, Option.some.injEq, ERs.ok.injEq] at e
            rw [← e.1]
            simp [evEs_len q2]
theorem srcs_of {F1 : Hp} {ρ1 : List Addr} {K : PySem.W.Frag} {ms : List ME} {es : List Expr} {φ : Slots} {st st1 : Store} {vs : List LV} {ps : List PV} {ws : List V} (hl : ms.length = es.length) (e1 : evEs S ms φ st = some (.ok vs st1)) (e2 : unpv vs = some ps) (r : RLs K F1 ρ1 vs ws) :
    ps.length = es.length ∧ RPs K F1 ps ws := by
  have e3 := unpv_eq e2
  have l := evEs_len e1
  rw [e3] at r l
  rw [List.length_map] at l
  exact ⟨l.trans hl, RLs_pv.mp r⟩
theorem iter_ok (C : Cok X g M S W k) {ik : IK} {src : List ME} {it : Expr} {xs : List Expr} {tg : Expr} (h : srcOf g ik it = some xs) (hs : SEs X M S W src xs) :
    ∃ wi, PI X tg it wi ∧ RdI M X.K W S wi ik src ∧ (∀ env x, foldedSetIterable it env x = pure x) := by
  cases ik with
  | val =>
    simp only [srcOf] at h
    split at h
    · cases h
    · rename_i hset
      simp only [Option.some.injEq] at h
      subst h
      have hl := hs.len
      cases src with
      | nil => simp at hl
      | cons m ms =>
        cases ms with
        | cons _ _ => simp at hl
        | nil =>
          obtain ⟨e, r, h1, h2, ⟨t, h3, h4⟩, h5⟩ := hs
          simp only [List.cons.injEq] at h1
          obtain ⟨h1, _⟩ := h1
          subst h1
          refine ⟨_, pi_seq h3, ?_, fun env x => noFold (by simpa using hset) env x⟩
          intro σ H Rr φ F ρ st hh hsl
          constructor
          · intro vs st1 ps ys e1 e2 e3 q
            obtain ⟨v, ev, e4⟩ := one_ok e1
            subst ev
            refine h4 σ H _ φ F ρ st _ hh hsl e4 ?_
            intro F1 ρ1 H1 w g1 h1 r1
            cases v with
            | ref n => simp [unpv] at e2
            | tup _ => simp [unpv] at e2
            | pv p =>
              simp only [unpv, Option.map_some, Option.some.injEq] at e2
              subst e2
              simp only [RL] at r1
              cases p <;> simp only [items, Option.some.injEq, reduceCtorEq] at e3
              · subst e3
                simp only [RP] at r1
                obtain ⟨a, ws, e5, e6, e7⟩ := r1
                exact ⟨a, e5, .inr ⟨⟨ws, .inl (.inl (h1.sub _ _ e6))⟩, q F1 ρ1 H1 _ g1 h1 (it_tup e6 e7)⟩⟩
              · subst e3
                simp only [RP] at r1
                obtain ⟨a, ws, e5, e6, e7⟩ := r1
                exact ⟨a, e5, .inl ⟨⟨ws, .inl (.inl (h1.sub _ _ e6))⟩, q F1 ρ1 H1 _ g1 h1 (it_list e6 e7)⟩⟩
          · intro x st1 e1 q
            exact h4 σ H _ φ F ρ st _ hh hsl (one_ex e1) q
  | range =>
    simp only [srcOf] at h
    split at h
    · rename_i f fp ys pos
      split at h
      · rename_i hc
        simp only [Option.some.injEq] at h
        subst h
        simp only [Bool.and_eq_true, decide_eq_true_eq] at hc
        obtain ⟨⟨⟨hf, hg⟩, hl1⟩, hl3⟩ := hc
        obtain ⟨g1, g2⟩ := C.gl hg
        subst hf
        obtain ⟨t, ht, hr⟩ := hs.pa
        have hst := hs.star
        have fold : ∀ env x, foldedSetIterable (.Call (.Name rangeN fp) ys [] pos) env x = pure x := fun env x => rfl
        have hlen := hs.len
        match ys, hl1, hl3, ht, hst, hlen with
        | [a], _, _, ht, hst, hlen =>
          have sa : starEach [a] X.env = [(false, eval a X.env)] := by
            simp only [List.all_cons, Bool.and_eq_true, Bool.not_eq_true'] at hst
            rw [star_each hst.1]; rfl
          refine ⟨_, pi_range1 g1 C.br ht sa, ?_, fold⟩
          intro σ H Rr φ F ρ st hh hsl
          refine ⟨fun vs st1 ps ys e1 e2 e3 q => hr σ H _ φ F ρ st _ hh hsl e1 fun F1 ρ1 H1 ws g1 h1 r1 => ?_, fun x st1 e1 q => hr σ H _ φ F ρ st _ hh hsl e1 q⟩
          obtain ⟨lv, r2⟩ := srcs_of hlen e1 e2 r1
          match ps, lv, e3, r2 with
          | [p], _, e3, r2 =>
            cases p <;> simp only [items, reduceCtorEq] at e3
            rename_i j
            split at e3
            · rename_i hj
              simp only [Option.some.injEq] at e3
              subst e3
              simp only [RPs, RP] at r2
              obtain ⟨v, r', w1, w2, w3⟩ := r2
              subst w1 w2 w3
              obtain ⟨b1, b2⟩ := rangeOk_ok hj
              exact ⟨_, rfl, b1, b2, q F1 ρ1 H1 _ g1 h1 (it_range 0 _)⟩
            · cases e3
        | [a, b], _, _, ht, hst, hlen =>
          simp only [List.all_cons, Bool.and_eq_true, Bool.not_eq_true'] at hst
          have sb : starEach [b] X.env = [(false, eval b X.env)] := by rw [star_each hst.2.1]; rfl
          have sa : starEach [a, b] X.env = [(false, eval a X.env), (false, eval b X.env)] := by rw [star_each hst.1, sb]
          refine ⟨_, pi_range2 g1 C.br ht sa sb, ?_, fold⟩
          intro σ H Rr φ F ρ st hh hsl
          refine ⟨fun vs st1 ps ys e1 e2 e3 q => hr σ H _ φ F ρ st _ hh hsl e1 fun F1 ρ1 H1 ws g1 h1 r1 => ?_, fun x st1 e1 q => hr σ H _ φ F ρ st _ hh hsl e1 q⟩
          obtain ⟨lv, r2⟩ := srcs_of hlen e1 e2 r1
          match ps, lv, e3, r2 with
          | [p, p'], _, e3, r2 =>
            cases p <;> cases p' <;> simp only [items, reduceCtorEq] at e3
            split at e3
            · rename_i hj
              simp only [Option.some.injEq] at e3
              subst e3
              simp only [Bool.and_eq_true] at hj
              simp only [RPs, RP] at r2
              obtain ⟨v, r', w1, w2, v', r'', w3, w4, w5⟩ := r2
              subst w1 w2 w3 w4 w5
              obtain ⟨b1, b2⟩ := rangeOk_ok hj.1
              obtain ⟨b3, b4⟩ := rangeOk_ok hj.2
              exact ⟨_, _, rfl, ⟨b1, b2, b3, b4⟩, q F1 ρ1 H1 _ g1 h1 (it_range _ _)⟩
            · cases e3
        | [a, b, c], _, _, ht, hst, hlen =>
          simp only [List.all_cons, Bool.and_eq_true, Bool.not_eq_true'] at hst
          refine ⟨_, pi_range3 g1 C.br ht (star_each hst.1) (star_plain (by simp [hst.2.1, hst.2.2.1])), ?_, fold⟩
          intro σ H Rr φ F ρ st hh hsl
          refine ⟨fun vs st1 ps ys e1 e2 e3 q => hr σ H _ φ F ρ st _ hh hsl e1 fun F1 ρ1 H1 ws g1 h1 r1 => ?_, fun x st1 e1 q => hr σ H _ φ F ρ st _ hh hsl e1 q⟩
          obtain ⟨lv, r2⟩ := srcs_of hlen e1 e2 r1
          match ps, lv, e3, r2 with
          | [p, p', p''], _, e3, r2 =>
            cases p <;> cases p' <;> cases p'' <;> simp only [items, reduceCtorEq] at e3
            split at e3
            · rename_i hj
              simp only [Option.some.injEq] at e3
              subst e3
              simp only [Bool.and_eq_true, decide_eq_true_eq] at hj
              simp only [RPs, RP] at r2
              obtain ⟨v, r', w1, w2, v', r'', w3, w4, v3, r3, w5, w6, w7⟩ := r2
              obtain ⟨⟨j1, j2⟩, j3⟩ := hj
              subst j3
              subst w1 w2 w3 w4 w5 w6 w7
              obtain ⟨b1, b2⟩ := rangeOk_ok j1
              obtain ⟨b3, b4⟩ := rangeOk_ok j2
              exact ⟨_, _, _, _, rfl, RgC.neg b1 b2 b3 b4, q F1 ρ1 H1 _ g1 h1 (it_down _ _)⟩
            · cases e3
      · cases h
    · cases h
end
end Z
end

section
/-! ZM: comprehensions. -/
namespace Z
open PySem PySem.Spec PyProof.Rows L2
section
variable {X : Cx} {g : SC} {M : Nm} {S : Sem} {W : WX} {k : Nat}
abbrev W0 : WX := fun _ _ _ _ => False
theorem Cok.blk (C : Cok X g M S W k) (scope : Scope) (s : Shared) (H : Hp) (A : Addr) (cl : List (Str × Addr)) (fp : List Addr) :
    Cok (X.blk s H scope (compEnvC scope cl A X.env) fp) (g.blk scope) M S W0 k where
  N := C.N
  sc := by
    show relabel scope X.env = relS scope g.sc
    rw [← C.sc]; rfl
  fn := fun x h => by
    have h' : decide (scope.names.lookup x = some .cell) = true := h
    show (scope.names.lookup x == some .cell) = true
    rw [of_decide_eq_true h']; rfl
  nd := C.nd
  calm := C.calm
  hr := C.hr
  un := C.un
  bi := C.bi
  bt := C.bt
  br := C.br
  bis := C.bis
  glb := C.glb
  calls := C.calls
  takes := takes0
  pass := PassesOwn.never
section
variable {F F' F1 F2 H H' H1 H2 : Hp} {ρ ρ' ρ1 ρ2 : List Addr} {st : Store} {K : PySem.W.Frag} {D : Addr} {o o' : HO}
/-- the object at D, younger than the beginning, changes -/
theorem G.turnD (g : G F1 ρ1 H1 F2 ρ2 H2) (nD : H1 D = none) (h : HR' M K F2 ρ2 H2 st) (nF : F2 D = none) (nρ : D ∉ ρ2) : G F1 ρ1 H1 F2 ρ2 (upd H2 D o) ∧ HR' M K F2 ρ2 (upd H2 D o) st := by
  refine ⟨⟨g.sub, g.pre, fun b u e hb => by rw [upd_ne (ne_of_none e nD)]; exact g.keep b u e hb, g.new, g.newρ, fun b hb => ?_⟩, ⟨fun b u e => by rw [upd_ne (ne_of_none e nF)]; exact h.sub b u e, h.len, h.nd, fun n a c e1 e2 => ?_⟩⟩
  · by_cases hbD : b = D
    · rw [hbD, upd_same]; simp
    · rw [upd_ne hbD]; exact g.hold b hb
  · have hc := h.cell n a c e1 e2
    have hne : a ≠ D := fun z => nρ (by rw [← z]; exact List.mem_of_getElem? e1)
    exact hc.mono (Sub.refl _) (Pre.refl _) (fun u e => by rw [upd_ne hne]; exact e) fun e => e
/-- it becomes a cell -/
theorem G.adoptC (g : G F1 ρ1 H1 F2 ρ2 H2) (nD : H1 D = none) (h : HR' M K F2 ρ2 H2 st) (nρ : D ∉ ρ2) {c : Cell} (hc : CR K F2 (ρ2 ++ [D]) M.cad M.fnm H2 D c) : G F1 ρ1 H1 F2 (ρ2 ++ [D]) H2 ∧ HR' M K F2 (ρ2 ++ [D]) H2 (st ++ [c]) := by
  refine ⟨⟨g.sub, g.pre.trans (Pre.snoc _ _), g.keep, g.new, fun b hb => ?_, g.hold⟩, ⟨h.sub, by rw [List.length_append, List.length_append, h.len]; rfl, ?_, fun n a c' e1 e2 => ?_⟩⟩
  · rcases List.mem_append.mp hb with z | z
    · exact g.newρ b z
    · have e : b = D := by simpa using z
      exact .inr (by rw [e]; exact nD)
  · exact List.nodup_append.mpr ⟨h.nd, by simp, fun x hx y hy e => nρ (by
      have : y = D := by simpa using hy
      rw [← this, ← e]; exact hx)⟩
  · by_cases hn : n < ρ2.length
    · rw [List.getElem?_append_left hn] at e1
      rw [List.getElem?_append_left (by rw [← h.len]; exact hn)] at e2
      exact (h.cell n a c' e1 e2).mono (Sub.refl _) (Pre.snoc _ _) (fun u e => e) fun e => e
    · have hn' : n = ρ2.length := by
        have := (List.getElem?_eq_some_iff.mp e1).1
        rw [List.length_append] at this
        simp only [List.length_cons, List.length_nil] at this
        omega
      subst hn'
      rw [List.getElem?_append_right (Nat.le_refl _)] at e1
      rw [h.len, List.getElem?_append_right (Nat.le_refl _)] at e2
      simp only [Nat.sub_self, List.getElem?_cons_zero, Option.some.injEq] at e1 e2
      subst e1 e2
      exact hc
/-- nothing will change it any more -/
theorem G.adoptF (g : G F1 ρ1 H1 F2 ρ2 H2) (nD : H1 D = none) (h : HR' M K F2 ρ2 H2 st) (hD : H2 D = some o) (nF : F2 D = none) (nρ : D ∉ ρ2) : G F1 ρ1 H1 (upd F2 D o) ρ2 H2 ∧ HR' M K (upd F2 D o) ρ2 H2 st := by
  refine ⟨⟨g.sub.trans (sub_upd nF), g.pre, g.keep, fun b u e => ?_, g.newρ, g.hold⟩, ⟨fun b u e => ?_, h.len, h.nd, fun n a c e1 e2 => ?_⟩⟩
  · by_cases hb : b = D
    · exact .inr (.inl (by rw [hb]; exact nD))
    · rw [upd_ne hb] at e; exact g.new b u e
  · by_cases hb : b = D
    · subst hb; rw [upd_same] at e; rw [← e]; exact hD
    · rw [upd_ne hb] at e; exact h.sub b u e
  · have hc := h.cell n a c e1 e2
    have hne : a ≠ D := fun z => nρ (by rw [← z]; exact List.mem_of_getElem? e1)
    exact hc.mono (sub_upd nF) (Pre.refl _) (fun u e => e) fun e => by rw [upd_ne hne]; exact e
/-- D through what may have come to pass -/
theorem G.atD (g : G F1 ρ1 H1 F2 ρ2 H2) (hD : H1 D = some o) (nF : F1 D = none) (nρ : D ∉ ρ1) : H2 D = some o ∧ F2 D = none ∧ D ∉ ρ2 := by
  refine ⟨g.keep D o hD nρ, ?_, fun hm => (g.newρ D hm).elim nρ fun z => by rw [hD] at z; cases z⟩
  cases q : F2 D with
  | none => rfl
  | some u =>
    rcases g.new D u q with z | z | z
    · rw [nF] at z; cases z
    · rw [hD] at z; cases z
    · exact absurd z nρ
end
theorem RLs.snoc {K : PySem.W.Frag} {F : Hp} {ρ : List Addr} {xs : List LV} {vs : List V} {y : LV} {v : V} (h : RLs K F ρ xs vs) (r : RL K F ρ y v) : RLs K F ρ (xs ++ [y]) (vs ++ [v]) :=
  h.append (by simp only [RLs]; exact ⟨v, [], rfl, r, rfl⟩)
/-- what a turn's test and element read -/
def RdTurn (M : Nm) (K : PySem.W.Frag) (tt : TT) (te : TE) (body : Slots → Store → Option ERs) : Prop := ∀ φ σ F ρ H st st' ys (U : V → Hp → Prop) (U0 : Hp → Prop), HR' M K F ρ H st → SL K F ρ σ φ → body φ st = some (.ok ys st') →
  (∀ F' ρ' H', G F ρ H F' ρ' H' → HR' M K F' ρ' H' st' → (ys = [] → U0 H') ∧ ∀ y v, ys = [y] → RL K F' ρ' y v → U v H') → tt σ H fun b H3 => if b = true then te σ H3 U else U0 H3
/-- the loop of a comprehension with one clause -/
theorem lc_loop {J : It} {tg : TG} {tt : TT} {te : TE} {mg : MG} {own : List Nat} {xs : List PV} {K : PySem.W.Frag} {F1 H1 : Hp} {ρ1 : List Addr} {st1 stE : Store} {all : List LV} {σ : L2.St} {φ : Slots} {D : Addr} {Q : Hp → Prop} {step : PV → Store → Option ERs} {body : Slots → Store → Option ERs}
    (hstep : ∀ x st, step x st = match asgG mg (.pv x) (wipeL φ own) with
      | some φ1 => body φ1 st
      | none => none)
    (hg : RdG M K tg mg) (hsub : ∀ i ∈ slotsG mg, i ∈ own) (hb : RdTurn M K tt te body)
    (h1 : HR' M K F1 ρ1 H1 st1) (hs : SL K F1 ρ1 σ φ) (ito : ItOk K J xs F1) (nD : H1 D = none) (ql : lcLoop step xs st1 = some (all, stE)) (hall : all.length ≤ line)
    (hq : ∀ F2 ρ2 H2 accV, G F1 ρ1 H1 F2 ρ2 H2 → HR' M K F2 ρ2 H2 stE → H2 D = some (.lst accV) → F2 D = none → D ∉ ρ2 → RLs K F2 ρ2 all accV → Q H2) :
    ∃ W_1 : Nat → Nat → Hp → Prop, (∃ m, W_1 0 m (upd H1 D (.lst []))) ∧ ∀ i m H, W_1 i m H →
      (J.stop i H ∧ Q H) ∨ (J.go i H ∧ ∃ Nx : Hp → Prop, (∀ H', Nx H' → ∃ m', m' < m ∧ W_1 (i + 1) m' H') ∧ ∀ x H', J.yld i H x H' → tg x (wipe σ own) H' fun σ2 H2 => wipe σ2 own = wipe σ own ∧ tt σ2 H2 fun b H3 =>
        if b = true then te σ2 H3 fun y H4 => ∃ acc, H4 D = some (.lst acc) ∧ acc.length < sizeLine ∧ Nx (upd H4 D (.lst (acc ++ [y]))) else Nx H3) := by
  obtain ⟨Inv, hInv⟩ : ∃ Inv : Nat → Hp → Prop, Inv = fun i H => i ≤ xs.length ∧ ∃ F2 ρ2 st2 acc accV zs, G F1 ρ1 H1 F2 ρ2 H ∧ HR' M K F2 ρ2 H st2 ∧ H D = some (.lst accV) ∧ F2 D = none ∧ D ∉ ρ2 ∧ RLs K F2 ρ2 acc accV ∧
      lcLoop step (xs.drop i) st2 = some (zs, stE) ∧ acc ++ zs = all := ⟨_, rfl⟩
  refine ⟨fun i m H => m = xs.length - i ∧ Inv i H, ⟨xs.length, by simp, ?_⟩, ?_⟩
  · obtain ⟨gL, hL⟩ := h1.laid nD (.lst [])
    rw [hInv]
    exact ⟨Nat.zero_le _, F1, ρ1, st1, [], [], all, gL, hL, upd_same, h1.fresh nD, h1.notin nD, by simp only [RLs], by simpa using ql, rfl⟩
  rintro i m H2 ⟨rfl, hI⟩
  rw [hInv] at hI
  obtain ⟨hi, F2, ρ2, st2, acc, accV, zs, g2, h2, hD, nF2, nρ2, ra, el, ea⟩ := hI
  by_cases hlt : i < xs.length
  · refine .inr ?_
    have hx : xs[i]? = some xs[i] := List.getElem?_eq_getElem hlt
    obtain ⟨hgo, hy⟩ := ito.at_ i xs[i] F2 H2 hx g2.sub h2.sub
    rw [List.drop_eq_getElem_cons hlt] at el
    unfold lcLoop at el
    cases qs : step xs[i] st2 with
    | none => simp [qs, noX] at el
    | some rr =>
      cases rr with
      | ex x stx => simp [qs, noX] at el
      | ok ys st3 =>
        simp only [qs, noX] at el
        cases q3 : lcLoop step (xs.drop (i + 1)) st3 with
        | none => simp [q3] at el
        | some p3 =>
          obtain ⟨zs', stE'⟩ := p3
          simp only [q3, Option.some.injEq, Prod.mk.injEq] at el
          obtain ⟨el1, el2⟩ := el
          subst el2
          refine ⟨hgo, Inv (i + 1), fun H' hN => ⟨xs.length - (i + 1), by omega, rfl, hN⟩, fun x H' hyl => ?_⟩
          have item : ∃ F3 , G F2 ρ2 H2 F3 ρ2 H' ∧ HR' M K F3 ρ2 H' st2 ∧ RP K F3 xs[i] x := by
            rcases hy x H' hyl with ⟨e1, e2⟩ | ⟨T, o, e0, e1, e2⟩
            · subst e1
              exact ⟨F2, G.refl _ _ _, h2, e2⟩
            · subst e1
              obtain ⟨g3, h3⟩ := h2.new e0 o
              exact ⟨_, g3, h3, e2⟩
          obtain ⟨F3, g3, h3, rx⟩ := item
          rw [hstep] at qs
          cases qa : asgG mg (.pv xs[i]) (wipeL φ own) with
          | none => simp [qa] at qs
          | some φ1 =>
            simp only [qa] at qs
            refine hg (.pv xs[i]) x (wipeL φ own) φ1 (wipe σ own) F3 ρ2 H' st2 _ h3 ((hs.g (g2.trans g3)).wipe own) (by simp only [RL]; exact rx) qa fun σ2 hs2 ho => ?_
            refine ⟨by rw [ho own hsub, wipe_wipe], ?_⟩
            refine hb φ1 σ2 F3 ρ2 H' st2 st3 ys (fun y H4 => ∃ acc, H4 D = some (.lst acc) ∧ acc.length < sizeLine ∧ Inv (i + 1) (upd H4 D (.lst (acc ++ [y])))) (Inv (i + 1)) h3 hs2 qs ?_
            intro F4 ρ4 H4 g4 h4
            have g34 := g3.trans g4
            obtain ⟨hD4, nF4, nρ4⟩ := g34.atD hD nF2 nρ2
            have gg : G F1 ρ1 H1 F4 ρ4 H4 := g2.trans g34
            have ra4 : RLs K F4 ρ4 acc accV := RLs.mono g34.sub g34.pre _ _ ra
            refine ⟨fun ey => ?_, fun y v ey ry => ?_⟩
            · subst ey
              rw [hInv]
              exact ⟨hlt, F4, ρ4, st3, acc, accV, zs', gg, h4, hD4, nF4, nρ4, ra4, q3, by rw [← ea, ← el1]; simp⟩
            · subst ey
              have hlen : accV.length < sizeLine := by
                rw [← ra4.length, line_eq]
                have := hall
                rw [← ea, ← el1] at this
                simp only [List.length_append, List.length_cons, List.length_nil] at this
                omega
              obtain ⟨gU, hU⟩ := gg.turnD (o := .lst (accV ++ [v])) nD h4 nF4 nρ4
              refine ⟨accV, hD4, hlen, ?_⟩
              rw [hInv]
              exact ⟨hlt, F4, ρ4, st3, acc ++ [y], accV ++ [v], zs', gU, hU, upd_same, nF4, nρ4, ra4.snoc ry, q3, by rw [← ea, ← el1]; simp⟩
  · have hi' : i = xs.length := by omega
    subst hi'
    refine .inl ⟨ito.stop F2 H2 g2.sub h2.sub, ?_⟩
    rw [List.drop_length] at el
    simp only [lcLoop, Option.some.injEq, Prod.mk.injEq] at el
    obtain ⟨el1, el2⟩ := el
    subst el1 el2
    rw [List.append_nil] at ea
    subst ea
    exact hq F2 ρ2 H2 accV g2 h2 hD nF2 nρ2 ra
theorem mkLst_ok {K : PySem.W.Frag} {live : Bool} {all : List LV} {F F2 H H2 : Hp} {ρ ρ2 : List Addr} {st : Store} {D : Addr} {accV : List V} {Q : VK} {r : ER} {σ : L2.St} (e : mkLst live all st = some r) (post : PostE M K W σ F ρ H Q r)
    (g : G F ρ H F2 ρ2 H2) (nD : H D = none) (h : HR' M K F2 ρ2 H2 st) (hD : H2 D = some (.lst accV)) (nF : F2 D = none) (nρ : D ∉ ρ2) (ra : RLs K F2 ρ2 all accV) : Q (.ref D) H2 := by
  unfold mkLst at e
  split at e
  · split at e
    · rename_i hl
      simp only [Option.some.injEq] at e
      subst e
      obtain ⟨g2, h2⟩ := g.adoptC nD h nρ (c := .lst true all) ⟨accV, hD, RLs.mono (Sub.refl _) (Pre.snoc _ _) _ _ ra, fun _ => nF, fun z => Bool.noConfusion z⟩
      refine post _ _ _ _ g2 h2 ?_
      simp only [RL]
      exact ⟨D, rfl, by rw [← h.len, List.getElem?_append_right (Nat.le_refl _)]; simp⟩
    · split at e
      · rename_i ps hu
        simp only [Option.some.injEq] at e
        subst e
        obtain ⟨g2, h2⟩ := g.adoptF nD h hD nF nρ
        refine post _ _ _ _ g2 h2 ?_
        simp only [RL, RP]
        rw [unpv_eq hu] at ra
        exact ⟨D, accV, rfl, upd_same, RPs.mono (sub_upd nF) _ _ (RLs_pv.mp ra)⟩
      · cases e
  · cases e
/-- the reading of a comprehension with one clause -/
theorem rd_lc {wi : TI} {tg : TG} {tt : TT} {te : TE} {mg : MG} {ik : IK} {src : List ME} {ifs : List MT} {elt : ME} {own : List Nat} {live : Bool}
    (hi : RdI M X.K W S wi ik src) (hg : RdG M X.K tg mg) (hsub : ∀ i ∈ slotsG mg, i ∈ own)
    (hb : RdTurn M X.K tt te fun φ st => evIf S ifs φ st fun st => R.bs (evE S elt φ st) fun y st => some (.ok [y] st)) :
    RdE M X.K W (tLc wi tg tt te own) (evE S (.lc live elt mg ik src ifs own)) := by
  intro σ H Q φ F ρ st r hh hs e post
  unfold tLc
  simp only [evE] at e
  obtain ⟨hok, hex⟩ := hi σ H _ φ F ρ st hh hs
  cases q : evEs S src φ st with
  | none => rw [q] at e; cases e
  | some rs =>
    rw [q] at e
    cases rs with
    | ex x st1 =>
      have e' : r = .ex x st1 := (Option.some.inj e).symm
      subst e'
      exact hex x st1 q post
    | ok vs st1 =>
      simp only [Rs.bind] at e
      cases qu : unpv vs with
      | none => simp [qu] at e
      | some ps =>
        simp only [qu] at e
        cases qi : items ik ps with
        | none => simp [qi] at e
        | some xs =>
          simp only [qi] at e
          split at e
          · rename_i all stE ql
            refine hok vs st1 ps xs q qu qi fun F1 ρ1 H1 J g1 h1 ito D nD => ?_
            have hall : all.length ≤ line := by
              unfold mkLst at e
              split at e
              · assumption
              · cases e
            refine lc_loop (body := fun φ st => evIf S ifs φ st fun st => R.bs (evE S elt φ st) fun y st => some (.ok [y] st)) (fun x st => rfl) hg hsub hb h1 (hs.g g1) ito nD ql hall fun F2 ρ2 H2 accV g2 h2 hD nF nρ ra => ?_
            exact mkLst_ok e (post.g g1) g2 nD h2 hD nF nρ ra
          · cases e
end
end Z
end

section
/-! ZN: every expression that the look accepts does what the semantics says. -/
namespace Z
open PySem PySem.Spec PyProof.Rows L2
section
variable {X : Cx} {g : SC} {M : Nm} {S : Sem} {W : WX} {k : Nat}
/-! ### single constructs -/
theorem rd_var (i : Nat) : RdE M X.K W (tVar i) (evE S (.var i)) := by
  intro σ H Q φ F ρ st r hh hs e p
  simp only [evE] at e
  split at e
  · rename_i v hv
    simp only [Option.some.injEq] at e
    subst e
    obtain ⟨u, h1, h2⟩ := hs.2 i v hv
    exact ⟨u, h1, p.here hh h2⟩
  · cases e
theorem lit_ok {p : PV} {c : Const} {n : Nat} {pos : Pos} (h : litOk p c = true) : ∃ v, PE X (.Constant c n pos) (tC v) ∧ RP X.K (fun _ => none) p v := by
  cases p <;> cases c <;> simp only [litOk, Bool.and_eq_true, decide_eq_true_eq, beq_iff_eq, reduceCtorEq, Bool.false_eq_true] at h
  · exact ⟨_, pe_non, by simp only [RP]⟩
  · subst h; exact ⟨_, pe_bl, by simp only [RP]⟩
  · subst h; exact ⟨_, pe_int, by simp only [RP]⟩
  · obtain ⟨h1, h2⟩ := h
    subst h1
    exact ⟨_, pe_str, by simp only [RP, true_and]; exact h2⟩
theorem rd_const {p : PV} {v : V} {f : Slots → Store → Option ER} (r : RP X.K (fun _ => none) p v) (hf : ∀ φ st, f φ st = some (.ok (.pv p) st) ∨ f φ st = none) : RdE M X.K W (tC v) f := by
  intro σ H Q φ F ρ st res hh hs e post
  rcases hf φ st with h | h
  · rw [h] at e
    simp only [Option.some.injEq] at e
    subst e
    exact post.tree hh (RP.mono (fun b o z => by cases z) _ _ r)
  · rw [h] at e; cases e
theorem rd_tup {t : TA} {ms : List ME} (h : RdA M X.K W t (evEs S ms)) : RdE M X.K W (tTup t) (evE S (.tup ms)) := by
  intro σ H Q φ F ρ st r hh hs e p
  simp only [evE] at e
  refine h.bind hh hs e p fun xs st1 F1 ρ1 H1 vs e1 g1 h1 r1 p1 => ?_
  split at e1
  · rename_i hl
    simp only [Option.some.injEq] at e1
    subst e1
    refine ⟨by rw [← r1.length, line_eq]; exact hl, fun a na => ?_⟩
    obtain ⟨g2, h2⟩ := h1.new na (.tup vs)
    exact p1 _ _ _ _ g2 h2 (RL_mkTup (RLs.mono g2.sub g2.pre _ _ r1) upd_same)
  · cases e1
theorem rd_lst {t : TA} {ms : List ME} {live : Bool} (h : RdA M X.K W t (evEs S ms)) : RdE M X.K W (tLst t) (evE S (.lst live ms)) := by
  intro σ H Q φ F ρ st r hh hs e p
  simp only [evE] at e
  refine h.bind hh hs e p fun xs st1 F1 ρ1 H1 vs e1 g1 h1 r1 p1 => ?_
  have hl : xs.length ≤ line := by
    unfold mkLst at e1
    split at e1
    · assumption
    · cases e1
  refine ⟨by rw [← r1.length, line_eq]; exact hl, fun a na => ?_⟩
  obtain ⟨g2, h2⟩ := h1.laid na (.lst vs)
  exact mkLst_ok e1 p1 g2 na h2 upd_same (h1.fresh na) (h1.notin na) (RLs.mono g2.sub g2.pre _ _ r1)
theorem rd_dnew (t : Bool) : RdE M X.K W (if t then tDNewT else tDNewK) (evE S (.dnew t)) := by
  intro σ H Q φ F ρ st r hh hs e p
  simp only [evE, Option.some.injEq] at e
  subst e
  cases t with
  | true =>
    show tDNewT σ H Q
    intro a na
    obtain ⟨g2, h2⟩ := hh.cellN na (o := .dT []) (c := .dt true []) ⟨[], upd_same, by simp only [RLt], fun _ => hh.fresh na, fun z => Bool.noConfusion z⟩
    refine p _ _ _ _ g2 (by simpa using h2) ?_
    simp only [RL]
    exact ⟨a, rfl, by rw [← hh.len, List.getElem?_append_right (Nat.le_refl _)]; simp⟩
  | false =>
    show tDNewK σ H Q
    intro a na
    obtain ⟨g2, h2⟩ := hh.cellN na (o := .dK []) (c := .dk true []) ⟨[], upd_same, by simp only [RLk], fun _ => hh.fresh na, fun z => Bool.noConfusion z⟩
    refine p _ _ _ _ g2 (by simpa using h2) ?_
    simp only [RL]
    exact ⟨a, rfl, by rw [← hh.len, List.getElem?_append_right (Nat.le_refl _)]; simp⟩
theorem rd_neg {t : TE} {f : Slots → Store → Option ER} (h : RdE M X.K W t f) : RdE M X.K W (tUn (rU fun i => .int (-i)) t) fun φ st => R.bind (f φ st) fun x st => match x with
    | .pv (.int i) => some (.ok (.pv (.int (-i))) st)
    | _ => none := by
  intro σ H Q φ F ρ st r hh hs e p
  refine h.bind hh hs e p fun x st1 F1 ρ1 H1 v e1 g1 h1 r1 p1 => ?_
  split at e1
  · simp only [Option.some.injEq] at e1
    subst e1
    simp only [RL, RP] at r1
    exact ⟨_, r1, p1.tree h1 (by simp only [RP])⟩
  · cases e1
theorem rd_ite {tc : TT} {ta tb : TE} {fc : Slots → Store → Option ET} {fa fb : Slots → Store → Option ER} (hc : RdT M X.K W tc fc) (ha : RdE M X.K W ta fa) (hb : RdE M X.K W tb fb) :
    RdE M X.K W (tIf tc ta tb) fun φ st => T.bind (fc φ st) fun d st => if d then fa φ st else fb φ st := by
  intro σ H Q φ F ρ st r hh hs e p
  refine hc.bind hh hs e p fun d st1 F1 ρ1 H1 e1 g1 h1 p1 => ?_
  cases d with
  | true =>
    rw [if_pos rfl] at e1 ⊢
    exact ha σ H1 Q φ F1 ρ1 st1 r h1 (hs.g g1) e1 p1
  | false =>
    rw [if_neg Bool.false_ne_true] at e1 ⊢
    exact hb σ H1 Q φ F1 ρ1 st1 r h1 (hs.g g1) e1 p1
def tIsNB (neg : Bool) (t : TE) : TE := tOp (fun x y H Q => y = .non ∧ Q (.bl (neg ^^ decide (x = .non))) H) t (tC .non)
theorem RL_non {F : Hp} {ρ : List Addr} {K : PySem.W.Frag} : ∀ {x : LV} {v : V}, RL K F ρ x v → (v = .non ↔ x = .pv .non)
  | .pv .non, v, h => by simp only [RL, RP] at h; subst h; simp
  | .pv (.bl b), v, h => by simp only [RL, RP] at h; subst h; simp
  | .pv (.int b), v, h => by simp only [RL, RP] at h; subst h; simp
  | .pv (.str b), v, h => by simp only [RL, RP] at h; obtain ⟨h, _⟩ := h; subst h; simp
  | .pv (.tup b), v, h => by simp only [RL, RP] at h; obtain ⟨a, vs, h, _⟩ := h; subst h; simp
  | .pv (.lst b), v, h => by simp only [RL, RP] at h; obtain ⟨a, vs, h, _⟩ := h; subst h; simp
  | .pv (.dk b), v, h => by simp only [RL, RP] at h; obtain ⟨a, vs, h, _⟩ := h; subst h; simp
  | .pv (.dt b), v, h => by simp only [RL, RP] at h; obtain ⟨a, vs, h, _⟩ := h; subst h; simp
  | .pv (.scr b), v, h => by simp only [RL, RP] at h; obtain ⟨a, h, _⟩ := h; subst h; simp
  | .ref n, v, h => by simp only [RL] at h; obtain ⟨a, h, _⟩ := h; subst h; simp
  | .tup xs, v, h => by simp only [RL] at h; obtain ⟨a, vs, h, _⟩ := h; subst h; simp
theorem rd_isn {t : TE} {f : Slots → Store → Option ER} {neg : Bool} (h : RdE M X.K W t f) : RdE M X.K W (tIsNB neg t) fun φ st => R.bind (f φ st) fun x st => match x with
    | .pv .non => some (.ok (.pv (.bl (!neg))) st)
    | _ => some (.ok (.pv (.bl neg)) st) := by
  intro σ H Q φ F ρ st r hh hs e p
  refine h.bind hh hs e p fun x st1 F1 ρ1 H1 v e1 g1 h1 r1 p1 => ⟨rfl, ?_⟩
  have hn := RL_non r1
  split at e1
  · simp only [Option.some.injEq] at e1
    subst e1
    rw [decide_eq_true (hn.mpr rfl), Bool.xor_true]
    exact p1.tree h1 (by simp only [RP])
  · rename_i hx
    simp only [Option.some.injEq] at e1
    subst e1
    rw [decide_eq_false (fun z => hx (hn.mp z)), Bool.xor_false]
    exact p1.tree h1 (by simp only [RP])
theorem op_isNB (neg : Bool) : OpR X (compareOp (if neg then CmpOp.IsNot else CmpOp.Is)) (fun x y H Q => y = .non ∧ Q (.bl (neg ^^ decide (x = .non))) H) := by
  cases neg with
  | true => simpa using op_notN (X := X)
  | false => simpa using op_isN (X := X)
def tTru (K : PySem.W.Frag) (t : TE) : TT := fun σ H Q => t σ H fun x H' => ∃ k, TruV K x H' k ∧ Q k H'
theorem rd_tru1 {t : TE} {f : Slots → Store → Option ER} (h : RdE M X.K W t f) : RdT M X.K W (tTru X.K t) fun φ st => R.bt (f φ st) fun v st => (truL v st).map fun b => .ok b st := by
  intro σ H Q φ F ρ st r hh hs e p
  refine h.bindT hh hs e p fun x st1 F1 ρ1 H1 v e1 g1 h1 r1 p1 => ?_
  simp only [Option.map_eq_some_iff] at e1
  obtain ⟨b, e2, e3⟩ := e1
  subst e3
  exact ⟨b, rd_truL h1 r1 e2, p1 F1 ρ1 H1 (G.refl _ _ _) h1⟩
/-- a bool as a test -/
theorem rd_test {t : TE} {f : Slots → Store → Option ER} (h : RdE M X.K W t f) (hb : ∀ φ st x st', f φ st = some (.ok x st') → ∃ b, x = .pv (.bl b)) : RdT M X.K W (tTest t) fun φ st => R.bt (f φ st) fun v st => (truL v st).map fun b => .ok b st := by
  intro σ H Q φ F ρ st r hh hs e p
  simp only at e
  cases q : f φ st with
  | none => rw [q] at e; cases e
  | some a =>
    rw [q] at e
    cases a with
    | ex x st1 =>
      have e' : r = .ex x st1 := (Option.some.inj e).symm
      subst e'
      exact h σ H _ φ F ρ st _ hh hs q p
    | ok x st1 =>
      obtain ⟨b, hx⟩ := hb φ st x st1 q
      subst hx
      simp only [R.bt, truL, peek, tru, Option.map_some, Option.some.injEq] at e
      subst e
      refine h σ H _ φ F ρ st _ hh hs q fun F1 ρ1 H1 v g1 h1 r1 => ?_
      simp only [RL, RP] at r1
      exact ⟨b, r1, p F1 ρ1 H1 g1 h1⟩
theorem rd_notT {t : TT} {f : Slots → Store → Option ET} (h : RdT M X.K W t f) : RdT M X.K W (tNot t) fun φ st => T.bt (f φ st) fun b st => some (.ok (!b) st) := by
  intro σ H Q φ F ρ st r hh hs e p
  refine h.bindT hh hs e p fun d st1 F1 ρ1 H1 e1 g1 h1 p1 => ?_
  simp only [Option.some.injEq] at e1
  subst e1
  exact p1 F1 ρ1 H1 (G.refl _ _ _) h1
/-- not t, as a value -/
def tNotE (t : TT) : TE := fun σ H Q => t σ H fun b H1 => Q (.bl (!b)) H1
theorem cmp_bool {op : CO} {x y : LV} {st st' : Store} {z : LV} (e : cmp op x y st = some (.ok z st')) : ∃ b, z = .pv (.bl b) := by
  unfold cmp at e
  split at e
  · simp only [Option.map_eq_some_iff, ER.ok.injEq] at e
    obtain ⟨c, _, e1, _⟩ := e
    exact ⟨c, e1.symm⟩
  · cases e
theorem bind_bool {f : Slots → Store → Option ER} {gg : LV → Store → Option ER} (h : ∀ x st y st', gg x st = some (.ok y st') → ∃ b, y = .pv (.bl b)) {φ : Slots} {st st' : Store} {y : LV} (e : R.bind (f φ st) gg = some (.ok y st')) : ∃ b, y = .pv (.bl b) := by
  unfold R.bind at e
  split at e
  · exact h _ _ _ _ e
  · cases e
  · cases e
/-- the slice -/
def rSlZ (K : PySem.W.Frag) : V → Option Int → Option Int → Hp → VK → Prop := rSlL K
theorem sIx_eq (n d : Nat) (o : Option Int) : HT.sIx n d o = sIx n d o := by
  cases o with
  | none => rfl
  | some v => rfl
theorem cutV_ok {K : PySem.W.Frag} {F : Hp} {xs : List PV} {vs : List V} (h : RPs K F xs vs) (lo hi : Option Int) : RPs K F (cut xs lo hi) (cutV vs lo hi) := by
  unfold cutV cut
  rw [sIx_eq, sIx_eq, ← h.length]
  exact (h.drop _).take _
def RdO (M : Nm) (K : PySem.W.Frag) (W : WX) (t : TO) (there : Bool) (f : Slots → Store → Option ER) : Prop := ∀ σ H (Q : Option Int → Hp → Prop) φ F ρ st r, HR' M K F ρ H st → SL K F ρ σ φ → f φ st = some r →
  (match r with
    | .ok x st1 => ∃ o, optL there x = some o ∧ ∀ F1 ρ1 H1, G F ρ H F1 ρ1 H1 → HR' M K F1 ρ1 H1 st1 → Q o H1
    | .ex e st1 => ∀ F' ρ' H' cls d, G F ρ H F' ρ' H' → HR' M K F' ρ' H' st1 → RX M K F' H' e cls d → W cls d σ H') → t σ H Q
theorem rdo_none : RdO M X.K W tNoPart false fun φ st => some (.ok (.pv .non) st) := by
  intro σ H Q φ F ρ st r hh hs e p
  simp only [Option.some.injEq] at e
  subst e
  obtain ⟨o, h1, h2⟩ := p
  simp only [optL, Bool.false_eq_true, if_false, Option.some.injEq] at h1
  subst h1
  exact h2 F ρ H (G.refl _ _ _) hh
theorem rdo_some {t : TE} {f : Slots → Store → Option ER} (h : RdE M X.K W t f) : RdO M X.K W (tPart t) true f := by
  intro σ H Q φ F ρ st r hh hs e p
  cases r with
  | ex x st1 => exact h σ H _ φ F ρ st _ hh hs e p
  | ok x st1 =>
    obtain ⟨o, h1, h2⟩ := p
    refine h σ H _ φ F ρ st _ hh hs e fun F1 ρ1 H1 v g1 hh1 r1 => ?_
    simp only [optL, if_true] at h1
    split at h1
    · simp only [Option.some.injEq] at h1
      subst h1
      simp only [RL, RP] at r1
      exact ⟨_, r1, h2 F1 ρ1 H1 g1 hh1⟩
    · cases h1
theorem rd_slc {ta : TE} {tl th : TO} {fa fl fh : Slots → Store → Option ER} {l h : Bool} (ha : RdE M X.K W ta fa) (hl : RdO M X.K W tl l fl) (hu : RdO M X.K W th h fh) :
    RdE M X.K W (tSl (rSlL X.K) ta tl th) fun φ st => R.bind (fa φ st) fun x st => R.bind (fl φ st) fun lv st => match optL l lv with
      | some lo => R.bind (fh φ st) fun hv st => match optL h hv, peek st x with
        | some hi, some x => okP st (doSlc x lo hi)
        | _, _ => none
      | none => none := by
  intro σ H Q φ F ρ st r hh hs e p
  refine ha.bind hh hs e p fun x st1 F1 ρ1 H1 v e1 g1 h1 r1 p1 => ?_
  have hs1 := hs.g g1
  cases ql : fl φ st1 with
  | none => rw [ql] at e1; cases e1
  | some rl =>
    rw [ql] at e1
    cases rl with
    | ex y st2 =>
      have e' : r = .ex y st2 := (Option.some.inj e1).symm
      subst e'
      exact hl σ H1 _ φ F1 ρ1 st1 _ h1 hs1 ql p1
    | ok y st2 =>
      simp only [R.bind] at e1
      split at e1
      · rename_i lo elo
        refine hl σ H1 _ φ F1 ρ1 st1 _ h1 hs1 ql ⟨lo, elo, fun F2 ρ2 H2 g2 h2 => ?_⟩
        have hs2 := hs1.g g2
        have p2 := p1.g g2
        cases qh : fh φ st2 with
        | none => rw [qh] at e1; cases e1
        | some rh =>
          rw [qh] at e1
          cases rh with
          | ex z st3 =>
            have e' : r = .ex z st3 := (Option.some.inj e1).symm
            subst e'
            exact hu σ H2 _ φ F2 ρ2 st2 _ h2 hs2 qh p2
          | ok z st3 =>
            simp only at e1
            split at e1
            · rename_i hi px ehi epx
              refine hu σ H2 _ φ F2 ρ2 st2 _ h2 hs2 qh ⟨hi, ehi, fun F3 ρ3 H3 g3 h3 => ?_⟩
              have p3 := p2.g g3
              have r3 := RL.mono (g2.trans g3).sub (g2.trans g3).pre _ _ r1
              have hk := peek_ok h3 r3 epx
              cases px <;> simp only [doSlc, okP, Option.some.injEq, reduceCtorEq] at e1
              subst e1
              obtain ⟨a, vs, ea, eb, ec⟩ := hk
              refine ⟨a, vs, ea, .inl (.inl eb), fun b nb => p3.made h3 nb ?_⟩
              simp only [RP]
              exact ⟨b, _, rfl, upd_same, RPs.mono (sub_upd (h3.fresh nb)) _ _ (cutV_ok ec lo hi)⟩
            · cases e1
      · cases e1
end
end Z
end

section
/-! ZO: the theorem for expressions. -/
namespace Z
open PySem PySem.Spec PyProof.Rows L2
section
variable {X : Cx} {g : SC} {M : Nm} {S : Sem} {W : WX} {k : Nat}
theorem rd_not {t : TE} {f : Slots → Store → Option ER} (h : RdE M X.K W t f) : RdE M X.K W (tNotT X.K t) fun φ st => R.bind (f φ st) fun x st => match truL x st with
    | some b => some (.ok (.pv (.bl (!b))) st)
    | none => none := by
  intro σ H Q φ F ρ st r hh hs e p
  refine h.bind hh hs e p fun x st1 F1 ρ1 H1 v e1 g1 h1 r1 p1 => ?_
  split at e1
  · rename_i b hb
    simp only [Option.some.injEq] at e1
    subst e1
    exact ⟨b, rd_truL h1 r1 hb, p1.tree h1 (by simp only [RP])⟩
  · cases e1
theorem rd_boolop2 {c : Bool} {ta tb : TE} {fa fb : Slots → Store → Option ER} (ha : RdE M X.K W ta fa) (hb : RdE M X.K W tb fb) :
    RdE M X.K W (if c then tAndT X.K ta tb else tOrT X.K ta tb) fun φ st => R.bind (fa φ st) fun v st => match truL v st with
      | some b => if b == c then fb φ st else some (.ok v st)
      | none => none := by
  intro σ H Q φ F ρ st r hh hs e p
  cases c with
  | true =>
    show tAndT X.K ta tb σ H Q
    refine ha.bind hh hs e p fun x st1 F1 ρ1 H1 v e1 g1 h1 r1 p1 => ?_
    split at e1
    · rename_i b hb'
      refine ⟨b, rd_truL h1 r1 hb', ?_⟩
      cases b with
      | true =>
        rw [if_pos rfl]
        simp only [beq_self_eq_true, if_true] at e1
        exact hb σ H1 Q φ F1 ρ1 st1 r h1 (hs.g g1) e1 p1
      | false =>
        rw [if_neg Bool.false_ne_true]
        simp only [show (false == true) = false by rfl, Bool.false_eq_true, if_false, Option.some.injEq] at e1
        subst e1
        exact p1.here h1 r1
    · cases e1
  | false =>
    show tOrT X.K ta tb σ H Q
    refine ha.bind hh hs e p fun x st1 F1 ρ1 H1 v e1 g1 h1 r1 p1 => ?_
    split at e1
    · rename_i b hb'
      refine ⟨b, rd_truL h1 r1 hb', ?_⟩
      cases b with
      | true =>
        rw [if_pos rfl]
        simp only [show (true == false) = false by rfl, Bool.false_eq_true, if_false, Option.some.injEq] at e1
        subst e1
        exact p1.here h1 r1
      | false =>
        rw [if_neg Bool.false_ne_true]
        simp only [beq_self_eq_true, if_true] at e1
        exact hb σ H1 Q φ F1 ρ1 st1 r h1 (hs.g g1) e1 p1
    · cases e1
theorem rd_boolopT2 {c : Bool} {ta tb : TT} {fa fb : Slots → Store → Option ET} (ha : RdT M X.K W ta fa) (hb : RdT M X.K W tb fb) :
    RdT M X.K W (if c then tAnd ta tb else tOr ta tb) fun φ st => T.bt (fa φ st) fun b st => if b == c then fb φ st else some (.ok b st) := by
  intro σ H Q φ F ρ st r hh hs e p
  cases c with
  | true =>
    show tAnd ta tb σ H Q
    refine ha.bindT hh hs e p fun b st1 F1 ρ1 H1 e1 g1 h1 p1 => ?_
    cases b with
    | true =>
      rw [if_pos rfl]
      simp only [beq_self_eq_true, if_true] at e1
      exact hb σ H1 Q φ F1 ρ1 st1 r h1 (hs.g g1) e1 p1
    | false =>
      rw [if_neg Bool.false_ne_true]
      simp only [show (false == true) = false by rfl, Bool.false_eq_true, if_false, Option.some.injEq] at e1
      subst e1
      exact p1 F1 ρ1 H1 (G.refl _ _ _) h1
  | false =>
    show tOr ta tb σ H Q
    refine ha.bindT hh hs e p fun b st1 F1 ρ1 H1 e1 g1 h1 p1 => ?_
    cases b with
    | true =>
      rw [if_pos rfl]
      simp only [show (true == false) = false by rfl, Bool.false_eq_true, if_false, Option.some.injEq] at e1
      subst e1
      exact p1 F1 ρ1 H1 (G.refl _ _ _) h1
    | false =>
      rw [if_neg Bool.false_ne_true]
      simp only [beq_self_eq_true, if_true] at e1
      exact hb σ H1 Q φ F1 ρ1 st1 r h1 (hs.g g1) e1 p1
/-! ### isinstance -/
def tyS : Ty → String
  | .int => "int" | .bool => "bool" | .str => "str" | .list => "list" | .tuple => "tuple"
theorem kit_non : ∀ t : Ty, kitB "NoneType" (tyS t) = some false
  | .int => by decide +kernel
  | .bool => by decide +kernel
  | .str => by decide +kernel
  | .list => by decide +kernel
  | .tuple => by decide +kernel
theorem kit_bool : ∀ t : Ty, kitB "bool" (tyS t) = some (t == .bool || t == .int)
  | .int => by decide +kernel
  | .bool => by decide +kernel
  | .str => by decide +kernel
  | .list => by decide +kernel
  | .tuple => by decide +kernel
theorem kit_int : ∀ t : Ty, kitB "int" (tyS t) = some (t == .int)
  | .int => by decide +kernel
  | .bool => by decide +kernel
  | .str => by decide +kernel
  | .list => by decide +kernel
  | .tuple => by decide +kernel
theorem kit_str : ∀ t : Ty, kitB "str" (tyS t) = some (t == .str)
  | .int => by decide +kernel
  | .bool => by decide +kernel
  | .str => by decide +kernel
  | .list => by decide +kernel
  | .tuple => by decide +kernel
theorem kit_list : ∀ t : Ty, kitB "list" (tyS t) = some (t == .list)
  | .int => by decide +kernel
  | .bool => by decide +kernel
  | .str => by decide +kernel
  | .list => by decide +kernel
  | .tuple => by decide +kernel
theorem kit_tuple : ∀ t : Ty, kitB "tuple" (tyS t) = some (t == .tuple)
  | .int => by decide +kernel
  | .bool => by decide +kernel
  | .str => by decide +kernel
  | .list => by decide +kernel
  | .tuple => by decide +kernel
theorem ty_ok {K : PySem.W.Frag} {F H : Hp} (s : Sub F H) {t : Ty} {p : PV} {v : V} {b : Bool} (h : PK K F H p v) (e : isTy t p = some b) : ∃ c : String, TyX K H v (.type c) ∧ kitB c (tyS t) = some b := by
  cases p <;> simp only [isTy, Option.some.injEq, reduceCtorEq] at e
  case non => subst e; simp only [PK, RP] at h; subst h; exact ⟨"NoneType", .base .non, kit_non t⟩
  case bl c => subst e; simp only [PK, RP] at h; subst h; exact ⟨"bool", .base (.bl _), kit_bool t⟩
  case int i => subst e; rw [h.int]; exact ⟨"int", .base (.int _), kit_int t⟩
  case str x => subst e; rw [h.str.1]; exact ⟨"str", .base (.str _), kit_str t⟩
  case lst xs =>
    subst e
    obtain ⟨a, vs, e1, e2, e3⟩ := h
    subst e1
    exact ⟨"list", .base (.lst e2), kit_list t⟩
  case tup xs =>
    subst e
    simp only [PK, RP] at h
    obtain ⟨a, vs, e1, e2, e3⟩ := h
    subst e1
    exact ⟨"tuple", .base (.tup (s _ _ e2)), kit_tuple t⟩
theorem ty_boot : ∀ t : Ty, bootBuiltins (tyName t) = some (.type (tyS t))
  | .int => by decide +kernel
  | .bool => by decide +kernel
  | .str => by decide +kernel
  | .list => by decide +kernel
  | .tuple => by decide +kernel
theorem rd_isi {t : TE} {f : Slots → Store → Option ER} {ty : Ty} (h : RdE M X.K W t f) : RdE M X.K W (tCB (rIsi X.K) (tCons t (tCons (tC (.ty (tyS ty))) tNil))) fun φ st => R.bind (f φ st) fun x st => match peek st x with
    | some x => (isTy ty x).map fun b => .ok (.pv (.bl b)) st
    | none => none := by
  intro σ H Q φ F ρ st r hh hs e p
  refine h.bind hh hs e p fun x st1 F1 ρ1 H1 v e1 g1 h1 r1 p1 => ?_
  split at e1
  · rename_i q hq
    simp only [Option.map_eq_some_iff] at e1
    obtain ⟨b, e2, e3⟩ := e1
    subst e3
    obtain ⟨c, h2, h3⟩ := ty_ok h1.sub (peek_ok h1 r1 hq) e2
    exact ⟨v, .ty (tyS ty), .type c, .type (tyS ty), b, rfl, .ty _, h2, kit_ty h3, p1.tree h1 (by simp only [RP])⟩
  · cases e1
/-! ### methods of built-in types -/
def bmT : BM → String
  | .append => "list"
  | .get2 => "dict"
def bmId : BM → String
  | .append => "list.append"
  | .get2 => "dict.get"
def rGet2 : V → List V → Hp → VK → Prop := fun x vs H Q => ∃ a y d o, x = .ref a ∧ vs = [y, d] ∧ DGet H a y o ∧ Q (o.getD d) H
theorem mt_get2 (hu : room2 X) : MtR X "dict.get" rGet2 := by
  intro pins s σ H x xs v us Q I rx rs h
  obtain ⟨a, y, d, o, ex, exs, g, q⟩ := h
  subst ex exs
  obtain rfl : v = Value.ref a := rx
  obtain ⟨u1, u2, e, r1, r2⟩ := Vals.two rs
  subst e
  exact d_get2 (by have h1 : X.A.units + 2100 < cLine := hu; omega) I g r1 r2 fun w' s3 I3 rw' => ⟨_, H, I3, rw', q⟩
def rBM : BM → V → List V → Hp → VK → Prop
  | .append => rAppend
  | .get2 => rGet2
theorem mtM_R {id : String} {r : V → List V → Hp → VK → Prop} (h : MtM X id r) : MtR X id r := h
theorem pe_bmZ (hu : room2 X) (m : BM) {o e : Expr} {es : List Expr} {to : TE} {t : TA} {apos cpos : Pos} (ho : PE X o to) (ha : PA X (e :: es) t)
    (hbase : attributeBase o (bmName m) X.env (eval o X.env) = eval o X.env)
    (hfew : ((backTo cpos (starEach (e :: es) X.env)).all (fun x => !x.1) && (backToKw cpos (keywordEach [] X.env)).all (fun x => x.1.isSome)
      && decide ((e :: es).length + ([] : List Keyword).length + (if ([] : List Keyword).isEmpty then 0 else 1) < 30)) = true)
    (hline : (apos.endLine == cpos.line) = true) (hs : starEach (e :: es) X.env = (false, eval e X.env) :: starEach es X.env) (hplain : (backTo cpos (starEach es X.env)).any (·.1) = false) :
    PE X (.Call (.Attribute o (bmName m) apos) (e :: es) [] cpos) (tBM X.K (bmT m) (rBM m) to t) := by
  cases m with
  | append => exact pe_bm PySem.F.plainAttrs_list PySem.F.slot_list_append PySem.F.type_list_append (mtM_R mt_append) ho ha hbase hfew hline hs hplain
  | get2 => exact pe_bm PySem.F.plainAttrs_dict PySem.F.slot_dict_get PySem.F.type_dict_get (mt_get2 hu) ho ha hbase hfew hline hs hplain
theorem base_plain {o : Expr} {m : Str} {env : Env} (h : (match o with
      | .Call _ [] _ _ => false
      | _ => true) = true) : attributeBase o m env (eval o env) = eval o env := by
  unfold attributeBase
  cases o <;> try rfl
  rename_i f args kws pos
  cases args with
  | nil => cases h
  | cons a as => cases f <;> rfl
end
end Z
end

section
/-! ZP: the theorem for expressions, all constructs. -/
namespace Z
open PySem PySem.Spec PyProof.Rows L2
section
variable {X : Cx} {g : SC} {M : Nm} {S : Sem} {W : WX} {k : Nat}
theorem boolop_ok (c : Bool) (pos : Pos) : ∀ {ms : List ME} {es : List Expr}, ms ≠ [] → SEs X M S W ms es → ∃ t, PE X (.BoolOp (if c then .And else .Or) es pos) t ∧ RdE M X.K W t (evB S c ms)
  | [], _, h, _ => absurd rfl h
  | [m], es, _, h => by
    obtain ⟨e, r, h1, h2, ⟨t, h3, h4⟩, h5⟩ := h
    have h5' : r = [] := h5
    subst h1 h5'
    exact ⟨_, pe_one h3, fun σ H Q φ F ρ st r hh hs e p => h4 σ H Q φ F ρ st r hh hs (by simpa only [evB] using e) p⟩
  | m :: m' :: ms, es, _, h => by
    obtain ⟨e, r, h1, h2, ⟨t, h3, h4⟩, h5⟩ := h
    subst h1
    obtain ⟨t', h6, h7⟩ := boolop_ok c pos (ms := m' :: ms) (es := r) (by simp) h5
    obtain ⟨e', r', h8, _⟩ := h5
    subst h8
    refine ⟨if c then tAndT X.K t t' else tOrT X.K t t', ?_, fun σ H Q φ F ρ st r hh hs e p => rd_boolop2 h4 h7 σ H Q φ F ρ st r hh hs (by simp only [evB] at e; exact e) p⟩
    cases c with
    | true => exact pe_andT h3 h6
    | false => exact pe_orT h3 h6
theorem boolopT_ok (c : Bool) (pos : Pos) : ∀ {ms : List MT} {es : List Expr}, ms ≠ [] → STs X M S W ms es → ∃ t, PW X (.BoolOp (if c then .And else .Or) es pos) t ∧ RdT M X.K W t (evBT S c ms)
  | [], _, h, _ => absurd rfl h
  | [m], es, _, h => by
    obtain ⟨e, r, h1, ⟨t, h3, h4⟩, h5⟩ := h
    have h5' : r = [] := h5
    subst h1 h5'
    refine ⟨t, ?_, fun σ H Q φ F ρ st r hh hs e p => h4 σ H Q φ F ρ st r hh hs (by simpa only [evBT] using e) p⟩
    cases c with
    | true => exact pw_and1 h3
    | false => exact pw_or1 h3
  | m :: m' :: ms, es, _, h => by
    obtain ⟨e, r, h1, ⟨t, h3, h4⟩, h5⟩ := h
    subst h1
    obtain ⟨t', h6, h7⟩ := boolopT_ok c pos (ms := m' :: ms) (es := r) (by simp) h5
    obtain ⟨e', r', h8, _⟩ := h5
    subst h8
    refine ⟨if c then tAnd t t' else tOr t t', ?_, fun σ H Q φ F ρ st r hh hs e p => rd_boolopT2 h4 h7 σ H Q φ F ρ st r hh hs (by simp only [evBT] at e; exact e) p⟩
    cases c with
    | true => exact pw_and h3 h6
    | false => exact pw_or h3 h6
theorem ty_bm {F H : Hp} {ρ : List Addr} {st : Store} {m : BM} {x : LV} {v : V} (hh : HR' M X.K F ρ H st) (r : RL X.K F ρ x v) (h : bmOk m x st = true) : tyV X.K (bmT m) v H := by
  cases x with
  | tup _ => cases m <;> simp [bmOk] at h
  | pv p =>
    cases m <;> cases p <;> simp [bmOk] at h
    · simp only [RL, RP] at r
      obtain ⟨a, ks, e1, e2, _⟩ := r
      subst e1
      exact .inr (.inr (.inl ⟨rfl, .inl ⟨ks, hh.sub _ _ e2⟩⟩))
    · simp only [RL, RP] at r
      obtain ⟨a, ks, e1, e2, _⟩ := r
      subst e1
      exact .inr (.inr (.inl ⟨rfl, .inr ⟨ks, hh.sub _ _ e2⟩⟩))
  | ref n =>
    simp only [RL] at r
    obtain ⟨a, e1, e2⟩ := r
    subst e1
    obtain ⟨c, ec, hc⟩ := hh.at e2
    cases m
    · simp only [bmOk, ec] at h
      cases c <;> simp at h
      obtain ⟨vs, h1, _⟩ := hc
      exact .inl ⟨rfl, vs, .inl (.inl h1)⟩
    · simp only [bmOk, ec] at h
      cases c <;> simp at h
      · obtain ⟨vs, h1, _⟩ := hc
        exact .inr (.inr (.inl ⟨rfl, .inl ⟨vs, h1⟩⟩))
      · obtain ⟨vs, h1, _⟩ := hc
        exact .inr (.inr (.inl ⟨rfl, .inr ⟨vs, h1⟩⟩))
theorem rd_get2 {F H : Hp} {ρ : List Addr} {st : Store} {σ : L2.St} {x kx d : LV} {v kv dv : V} {q pk : PV} {Q : VK} {r : ER} (hh : HR' M X.K F ρ H st) (hx : PK X.K F H q v) (hk : PK X.K F H pk kv)
    (e : (match some q, some pk, d with
      | some (.dk kvs), some k, .pv d => (match keyK k with
        | some k => some (.ok (.pv ((look k kvs).getD d)) st)
        | none => none)
      | some (.dt kvs), some k, .pv d => (match keyT k with
        | some k => some (.ok (.pv ((look k kvs).getD d)) st)
        | none => none)
      | _, _, _ => none) = some r) (p : PostE M X.K W σ F ρ H Q r) (hd : RL X.K F ρ d dv) : rGet2 v [kv, dv] H Q := by
  cases d with
  | ref _ => cases q <;> simp at e
  | tup _ => cases q <;> simp at e
  | pv d =>
    simp only [RL] at hd
    cases q <;> simp only [reduceCtorEq] at e
    · split at e
      · rename_i k hkk
        simp only [Option.some.injEq] at e
        subst e
        obtain ⟨a, ea, dd⟩ := dget_k hx hk hkk
        rcases dd with ⟨l, dd⟩ | ⟨z, u, l, dd, rz⟩
        · refine ⟨a, kv, dv, none, ea, rfl, dd, ?_⟩
          rw [l] at p
          exact p.tree hh hd
        · refine ⟨a, kv, dv, some u, ea, rfl, dd, ?_⟩
          rw [l] at p
          exact p.tree hh rz
      · cases e
    · split at e
      · rename_i k hkk
        simp only [Option.some.injEq] at e
        subst e
        obtain ⟨a, ea, dd⟩ := dget_t hh.sub hx hk hkk
        rcases dd with ⟨l, dd⟩ | ⟨z, u, l, dd, rz⟩
        · refine ⟨a, kv, dv, none, ea, rfl, dd, ?_⟩
          rw [l] at p
          exact p.tree hh hd
        · refine ⟨a, kv, dv, some u, ea, rfl, dd, ?_⟩
          rw [l] at p
          exact p.tree hh rz
      · cases e
theorem rd_bm {F H : Hp} {ρ : List Addr} {st : Store} {σ : L2.St} {m : BM} {x : LV} {v : V} {xs : List LV} {vs : List V} {Q : VK} {r : ER} (hh : HR' M X.K F ρ H st) (rx : RL X.K F ρ x v) (rs : RLs X.K F ρ xs vs) (e : doBM m x xs st = some r) (p : PostE M X.K W σ F ρ H Q r) :
    rBM m v vs H Q := by
  cases m with
  | append =>
    match xs, rs, e with
    | [y], rs, e =>
      simp only [RLs] at rs
      obtain ⟨w, r', e1, ry, e2⟩ := rs
      subst e1 e2
      simp only [doBM] at e
      split at e
      · rename_i n
        simp only [RL] at rx
        obtain ⟨a, ev, ea⟩ := rx
        obtain ⟨c, ec, hc⟩ := hh.at ea
        rw [ec] at e
        split at e
        · rename_i zs heq
          simp only [Option.some.injEq] at heq
          subst heq
          split at e
          · rename_i hl
            simp only [Option.some.injEq] at e
            subst e
            obtain ⟨ws, h1, h2, h3, h4⟩ := hc
            refine ⟨a, ws, w, ev, rfl, h1, by rw [← h2.length, line_eq]; exact hl, ?_⟩
            obtain ⟨g2, hh2⟩ := hh.write ea (h3 rfl) (o := .lst (ws ++ [w])) (c := .lst true (zs ++ [y])) ⟨_, upd_same, h2.snoc ry, fun _ => h3 rfl, fun z => Bool.noConfusion z⟩
            exact p _ _ _ _ g2 hh2 (by simp only [RL, RP])
          · cases e
        · cases e
      · cases e
    | [], _, e => simp [doBM] at e
    | _ :: _ :: _, _, e => simp [doBM] at e
  | get2 =>
    match xs, rs, e with
    | [kx, d], rs, e =>
      simp only [RLs] at rs
      obtain ⟨kv, r', e1, rk, dv, r'', e2, rd, e3⟩ := rs
      subst e1 e2 e3
      simp only [doBM] at e
      cases qx : peek st x with
      | none => simp [qx] at e
      | some q =>
        cases qk : peek st kx with
        | none => rw [qx, qk] at e; cases q <;> simp at e
        | some pk =>
          rw [qx, qk] at e
          exact rd_get2 (x := x) (kx := kx) (q := q) (pk := pk) (d := d) hh (peek_ok hh rx qx) (peek_ok hh rk qk) e p rd
    | [], _, e => simp [doBM] at e
    | [_], _, e => simp [doBM] at e
    | _ :: _ :: _ :: _, _, e => simp [doBM] at e
theorem rd_bmC {m : BM} {to : TE} {t : TA} {fo : Slots → Store → Option ER} {fa : Slots → Store → Option ERs} (ho : RdE M X.K W to fo) (ha : RdA M X.K W t fa) :
    RdE M X.K W (tBM X.K (bmT m) (rBM m) to t) fun φ st => R.bind (fo φ st) fun x st => if bmOk m x st then Rs.bind (fa φ st) fun vs st => doBM m x vs st else none := by
  intro σ H Q φ F ρ st r hh hs e p
  refine ho.bind hh hs e p fun x st1 F1 ρ1 H1 v e1 g1 h1 r1 p1 => ?_
  split at e1
  · rename_i hok
    refine ⟨ty_bm h1 r1 hok, ?_⟩
    refine ha.bind h1 (hs.g g1) e1 p1 fun xs st2 F2 ρ2 H2 vs e2 g2 h2 r2 p2 => ?_
    exact rd_bm h2 (RL.mono g2.sub g2.pre _ _ r1) r2 e2 p2
  · cases e1
theorem rd_cmpT {ta tb : TE} {fa fb : Slots → Store → Option ER} (ha : RdE M X.K W ta fa) (hb : RdE M X.K W tb fb) (op : CO) :
    RdT M X.K W (tTest (tOp (rCmp X.K op) ta tb)) fun φ st => R.bt (fa φ st) fun x st => R.bt (fb φ st) fun y st => cmpT op x y st := by
  intro σ H Q φ F ρ st res hh hs e p
  show ta σ H _
  refine ha.bindT hh hs e p fun x st1 F1 ρ1 H1 v e1 g1 h1 r1 p1 => ?_
  refine hb.bindT h1 (hs.g g1) e1 p1 fun y st2 F2 ρ2 H2 w e2 g2 h2 r2 p2 => ?_
  unfold cmpT at e2
  have r1' := RL.mono g2.sub g2.pre x v r1
  cases ex : peek st2 x with
  | none => simp [ex] at e2
  | some a =>
    cases ey : peek st2 y with
    | none => simp [ex, ey] at e2
    | some b =>
      simp only [ex, ey, Option.map_eq_some_iff] at e2
      obtain ⟨c, e3, e4⟩ := e2
      subst e4
      refine rd_cmpP (W := W) (σ := σ) (st := st2) h2 (peek_ok h2 r1' ex) (peek_ok h2 r2 ey) e3 fun F3 ρ3 H3 z g3 h3 r3 => ?_
      simp only [RL, RP] at r3
      exact ⟨c, r3, p2 F3 ρ3 H3 g3 h3⟩
theorem rd_isnT {t : TE} {f : Slots → Store → Option ER} {neg : Bool} (h : RdE M X.K W t f) : RdT M X.K W (tTest (tIsNB neg t)) fun φ st => R.bt (f φ st) fun x st => match x with
    | .pv .non => some (.ok (!neg) st)
    | _ => some (.ok neg st) := by
  intro σ H Q φ F ρ st r hh hs e p
  show t σ H _
  refine h.bindT hh hs e p fun x st1 F1 ρ1 H1 v e1 g1 h1 r1 p1 => ⟨rfl, ?_⟩
  have hn := RL_non r1
  split at e1
  · simp only [Option.some.injEq] at e1
    subst e1
    refine ⟨_, rfl, ?_⟩
    rw [decide_eq_true (hn.mpr rfl), Bool.xor_true]
    exact p1 F1 ρ1 H1 (G.refl _ _ _) h1
  · rename_i hx
    simp only [Option.some.injEq] at e1
    subst e1
    refine ⟨_, rfl, ?_⟩
    rw [decide_eq_false (fun z => hx (hn.mp z)), Bool.xor_false]
    exact p1 F1 ρ1 H1 (G.refl _ _ _) h1
/-- one reading for all blocks -/
theorem all_PE {ι : Type} {Xs : ι → Cx} {e : Expr} {f : Slots → Store → Option ER} {K : PySem.W.Frag} {W : WX} (h : ∀ i, ∃ t, PE (Xs i) e t ∧ RdE M K W t f) : ∃ t, (∀ i, PE (Xs i) e t) ∧ RdE M K W t f := by
  refine ⟨fun σ H Q => ∀ i, Classical.choose (h i) σ H Q, fun i => ⟨fun pins s σ H Q I q => (Classical.choose_spec (h i)).1.run pins s σ H Q I (q i)⟩, fun σ H Q φ F ρ st r hh hs ev p i => (Classical.choose_spec (h i)).2 σ H Q φ F ρ st r hh hs ev p⟩
theorem all_PT {ι : Type} {Xs : ι → Cx} {e : Expr} {f : Slots → Store → Option ET} {K : PySem.W.Frag} {W : WX} (h : ∀ i, ∃ t, PT (Xs i) e t ∧ RdT M K W t f) : ∃ t, (∀ i, PT (Xs i) e t) ∧ RdT M K W t f := by
  refine ⟨fun σ H Q => ∀ i, Classical.choose (h i) σ H Q, fun i => ⟨fun pins s σ H Q I q => (Classical.choose_spec (h i)).1.run pins s σ H Q I (q i)⟩, fun σ H Q φ F ρ st r hh hs ev p i => (Classical.choose_spec (h i)).2 σ H Q φ F ρ st r hh hs ev p⟩
theorem all_PG {ι : Type} {Xs : ι → Cx} {e : Expr} {m : MG} {K : PySem.W.Frag} (h : ∀ i, ∃ t, PG (Xs i) e t ∧ RdG M K t m) : ∃ t, (∀ i, PG (Xs i) e t) ∧ RdG M K t m := by
  refine ⟨fun v σ H Q => ∀ i, Classical.choose (h i) v σ H Q, fun i => ⟨fun pins s σ H v u Q I r q => (Classical.choose_spec (h i)).1.run pins s σ H v u Q I r (q i)⟩, fun x v φ φ' σ F ρ H st Q hh hs r ev p i => (Classical.choose_spec (h i)).2 x v φ φ' σ F ρ H st Q hh hs r ev p⟩
structure Blk where
  s : Shared
  H : Hp
  A : Addr
  cl : List (Str × Addr)
  fp : List Addr
abbrev Blk.cx (b : Blk) (X : Cx) (scope : Scope) : Cx := X.blk b.s b.H scope (compEnvC scope b.cl b.A X.env) b.fp
/-- a turn of a comprehension -/
theorem turn_nil {te : TE} {elt : ME} (he : RdE M X.K W0 te (evE S elt)) : RdTurn M X.K tYes te fun φ st => evIf S [] φ st fun st => R.bs (evE S elt φ st) fun y st => some (.ok [y] st) := by
  intro φ σ F ρ H st st' ys U U0 hh hs e p
  show (if true = true then te σ H U else U0 H)
  rw [if_pos rfl]
  simp only [evIf] at e
  cases q : evE S elt φ st with
  | none => rw [q] at e; cases e
  | some r =>
    rw [q] at e
    cases r with
    | ex x st1 => simp [R.bs] at e
    | ok y st1 =>
      simp only [R.bs, Option.some.injEq, ERs.ok.injEq] at e
      obtain ⟨e1, e2⟩ := e
      subst e1 e2
      exact he σ H U φ F ρ st _ hh hs q fun F1 ρ1 H1 v g1 h1 r1 => (p F1 ρ1 H1 g1 h1).2 y v rfl r1
theorem turn_one {tt : TT} {te : TE} {elt : ME} {t : MT} (ht : RdT M X.K W0 tt (evT S t)) (he : RdE M X.K W0 te (evE S elt)) : RdTurn M X.K tt te fun φ st => evIf S [t] φ st fun st => R.bs (evE S elt φ st) fun y st => some (.ok [y] st) := by
  intro φ σ F ρ H st st' ys U U0 hh hs e p
  simp only [evIf] at e
  cases qt : evT S t φ st with
  | none => rw [qt] at e; cases e
  | some rt =>
    rw [qt] at e
    cases rt with
    | ex x st1 => simp at e
    | ok b st1 =>
      refine ht σ H _ φ F ρ st _ hh hs qt fun F1 ρ1 H1 g1 h1 => ?_
      cases b with
      | false =>
        rw [if_neg Bool.false_ne_true]
        simp only [Option.some.injEq, ERs.ok.injEq] at e
        obtain ⟨e1, e2⟩ := e
        subst e1 e2
        exact (p F1 ρ1 H1 g1 h1).1 rfl
      | true =>
        rw [if_pos rfl]
        simp only at e
        cases q : evE S elt φ st1 with
        | none => rw [q] at e; cases e
        | some r =>
          rw [q] at e
          cases r with
          | ex x st2 => simp [R.bs] at e
          | ok y st2 =>
            simp only [R.bs, Option.some.injEq, ERs.ok.injEq] at e
            obtain ⟨e1, e2⟩ := e
            subst e1 e2
            exact he σ H1 U φ F1 ρ1 st1 _ h1 (hs.g g1) q fun F2 ρ2 H2 v g2 h2 r2 => (p F2 ρ2 H2 (g1.trans g2) h2).2 y v rfl r2
/-- the tests of a clause -/
def SIf (X : Cx) (M : Nm) (S : Sem) (ifs : List MT) (is : List Expr) : Prop := (ifs = [] ∧ is = []) ∨ ∃ t e, ifs = [t] ∧ is = [e] ∧ ST X M S W0 t e
theorem rd_frz {t : TE} {f : Slots → Store → Option ER} (h : RdE M X.K W t f) : RdE M X.K W t fun φ st => R.bind (f φ st) fun x st => (frz x st).map fun p => .ok (.pv p.1) p.2 := by
  intro σ H Q φ F ρ st r hh hs e p
  refine h.bind hh hs e p fun x st1 F1 ρ1 H1 v e1 g1 h1 r1 p1 => ?_
  simp only [Option.map_eq_some_iff] at e1
  obtain ⟨q, e2, e3⟩ := e1
  subst e3
  obtain ⟨F2, g2, h2, r2⟩ := frz_ok h1 r1 (p := q.1) (st' := q.2) e2
  exact p1 F2 ρ1 H1 v g2 h2 (by simp only [RL]; exact r2)
theorem rd_callC {f n : Nat} {t : TA} {ms : List ME} (hn : ms.length = n) (h : RdA M X.K W t (evEs S ms)) : RdE M X.K W (tCallSD (spOf M X.K (S.cal f) n) [] (fun σ cls d H => W cls d σ H) t) (evE S (.call f ms)) := by
  intro σ H Q φ F ρ st r hh hs e p
  simp only [evE] at e
  cases q : evEs S ms φ st with
  | none => rw [q] at e; cases e
  | some rs =>
    rw [q] at e
    cases rs with
    | ex x st1 =>
      have e' : r = .ex x st1 := (Option.some.inj e).symm
      subst e'
      exact h σ H _ φ F ρ st _ hh hs q p
    | ok xs st1 =>
      refine h σ H _ φ F ρ st _ hh hs q fun F1 ρ1 H1 vs g1 h1 r1 => ?_
      show spOf M X.K (S.cal f) n (vs ++ []) H1 Q (fun cls d H => W cls d σ H)
      rw [List.append_nil]
      exact rd_call h1 r1 (by rw [← r1.length, evEs_len q, hn]) e (p.g g1)
theorem rd_biC {b : BI} {t : TA} {ms : List ME} (h : RdA M X.K W t (evEs S ms)) : RdE M X.K W (tCB (rBI X.K b) t) (evE S (.bi b ms)) := by
  intro σ H Q φ F ρ st r hh hs e p
  simp only [evE] at e
  refine h.bind hh hs e p fun xs st1 F1 ρ1 H1 vs e1 g1 h1 r1 p1 => ?_
  split at e1
  · rename_i ps hp
    cases qz : doBI b ps with
    | none => simp [qz, okP] at e1
    | some z =>
      simp only [qz, okP, Option.some.injEq] at e1
      subst e1
      exact rd_bi h1 (peeks_ok h1 r1 hp) qz p1
  · cases e1
theorem few_ok {es : List Expr} {env : Env} {cpos : Pos} (h : (es.all fun e => !isStar e) = true) (hl : es.length < 20) : ((backTo cpos (starEach es env)).all (fun x => !x.1) && (backToKw cpos (keywordEach [] env)).all (fun x => x.1.isSome)
      && decide (es.length + ([] : List Keyword).length + (if ([] : List Keyword).isEmpty then 0 else 1) < 30)) = true := by
  have h1 : (backTo cpos (starEach es env)).all (fun x => !x.1) = true := by
    have := star_plain (env := env) (pos := cpos) h
    rw [List.any_eq_false] at this
    rw [List.all_eq_true]
    intro x hx
    have h2 := this x hx
    simpa using h2
  rw [h1]
  simp only [Bool.true_and, Bool.and_eq_true, decide_eq_true_eq]
  exact ⟨rfl, by simp; omega⟩
end
section
variable {M : Nm} {S : Sem} {k : Nat}
mutual
theorem snd : ∀ (m : ME) (g : SC) (X : Cx) (W : WX) (e : Expr), Cok X g M S W k → chkE g m e = true → SE X M S W m e
  | .var i, g, X, W, e, C, h => by
    cases e <;> simp only [chkE, Bool.and_eq_true, decide_eq_true_eq, Bool.false_eq_true] at h
    obtain ⟨h1, h2, h3⟩ := C.vis h.2
    exact ⟨_, pe_var (i := i) (by rw [C.N]; exact h.1) h1 h2 h3, rd_var i⟩
  | .lit p, g, X, W, e, C, h => by
    cases e <;> simp only [chkE, Bool.false_eq_true] at h
    obtain ⟨v, h1, h2⟩ := lit_ok (X := X) h
    exact ⟨_, h1, rd_const h2 fun φ st => .inl (by simp only [evE])⟩
  | .glb i, g, X, W, e, C, h => by
    cases e <;> simp only [chkE, Bool.and_eq_true, decide_eq_true_eq, Bool.false_eq_true] at h
    obtain ⟨h1, h2⟩ := C.gl h.2
    cases q : S.glb i with
    | none =>
      refine ⟨_, ⟨fun _ _ _ _ _ _ z => z.elim⟩, (show RdE M X.K W (fun _ _ _ => False) _ from fun σ H Q φ F ρ st r hh hs e p => ?_)⟩
      simp only [evE, q, okP] at e
      cases e
    | some p =>
      obtain ⟨u, v, h3, h4, _, h5⟩ := C.glb i _ p h.1 q
      exact ⟨_, pe_glob h1 h3 h4 h2, rd_const h5 fun φ st => .inl (by simp only [evE, q, okP])⟩
  | .tup es, g, X, W, e, C, h => by
    cases e <;> simp only [chkE, Bool.false_eq_true] at h
    obtain ⟨t, h1, h2⟩ := (snds es g X W _ C h).pa
    exact ⟨_, pe_tup h1, rd_tup h2⟩
  | .lst live es, g, X, W, e, C, h => by
    cases e <;> simp only [chkE, Bool.false_eq_true] at h
    obtain ⟨t, h1, h2⟩ := (snds es g X W _ C h).pa
    exact ⟨_, pe_lst h1, rd_lst h2⟩
  | .dnew t, g, X, W, e, C, h => by
    unfold chkE at h
    split at h
    · cases t with
      | true => exact ⟨_, pe_dnewT, rd_dnew true⟩
      | false => exact ⟨_, pe_dnewK, rd_dnew false⟩
    · cases h
  | .bin op a b, g, X, W, e, C, h => by
    cases e <;> simp only [chkE, Bool.and_eq_true, decide_eq_true_eq, Bool.false_eq_true] at h
    obtain ⟨⟨h1, h2⟩, h3⟩ := h
    subst h1
    obtain ⟨ta, a1, a2⟩ := snd a g X W _ C h2
    obtain ⟨tb, b1, b2⟩ := snd b g X W _ C h3
    exact ⟨_, pe_op (op_bin op) a1 b1, rd_op a2 b2 (rd_bin op)⟩
  | .cmp op a b, g, X, W, e, C, h => by
    unfold chkE at h
    split at h
    · simp only [Bool.and_eq_true, decide_eq_true_eq, Bool.not_eq_true'] at h
      obtain ⟨⟨⟨h1, hs⟩, h2⟩, h3⟩ := h
      subst h1
      obtain ⟨ta, a1, a2⟩ := snd a g X W _ C h2
      obtain ⟨tb, b1, b2⟩ := snd b g X W _ C h3
      exact ⟨_, pe_cmpR (op_cmp C.un op) a1 b1 (noSet hs _), rd_op a2 b2 (rd_cmp op)⟩
    · cases h
  | .boolop c es, g, X, W, e, C, h => by
    cases e <;> simp only [chkE, Bool.and_eq_true, decide_eq_true_eq, Bool.not_eq_true', Bool.false_eq_true] at h
    obtain ⟨⟨h1, h2⟩, h3⟩ := h
    subst h1
    obtain ⟨t, h4, h5⟩ := boolop_ok c _ (by intro z; subst z; simp at h2) (snds es g X W _ C h3)
    exact ⟨t, h4, fun σ H Q φ F ρ st r hh hs e p => h5 σ H Q φ F ρ st r hh hs (by simpa only [evE] using e) p⟩
  | .not a, g, X, W, e, C, h => by
    unfold chkE at h
    split at h
    · obtain ⟨t, h1, h2⟩ := snd a g X W _ C h
      exact ⟨_, pe_notT h1, rd_not h2⟩
    · cases h
  | .neg a, g, X, W, e, C, h => by
    unfold chkE at h
    split at h
    · obtain ⟨t, h1, h2⟩ := snd a g X W _ C h
      exact ⟨_, pe_un un_neg h1, rd_neg h2⟩
    · cases h
  | .ite c a b, g, X, W, e, C, h => by
    cases e <;> simp only [chkE, Bool.and_eq_true, Bool.false_eq_true] at h
    obtain ⟨tc, c1, c2⟩ := sndT c g X W _ C h.1.1
    obtain ⟨ta, a1, a2⟩ := snd a g X W _ C h.1.2
    obtain ⟨tb, b1, b2⟩ := snd b g X W _ C h.2
    exact ⟨_, pe_ifExp c1 a1 b1, rd_ite c2 a2 b2⟩
  | .idx a i, g, X, W, e, C, h => by
    cases e <;> simp only [chkE, Bool.and_eq_true, Bool.not_eq_true', Bool.false_eq_true] at h
    obtain ⟨ta, a1, a2⟩ := snd a g X W _ C h.1.2
    obtain ⟨tb, b1, b2⟩ := snd i g X W _ C h.2
    exact ⟨_, pe_ix (ix_Z C.un) a1 b1 (plainIx h.1.1), rd_op a2 b2 rd_getI⟩
  | .slc a l lo hb hi, g, X, W, e, C, h => by
    unfold chkE at h
    split at h
    · rename_i x le ue p1 p2
      simp only [Bool.and_eq_true] at h
      obtain ⟨⟨h1, h2⟩, h3⟩ := h
      obtain ⟨ta, a1, a2⟩ := snd a g X W _ C h1
      have lp : ∃ t, PO X le t ∧ RdO M X.K W t l (fun φ st => if l then evE S lo φ st else some (.ok (.pv .non) st)) := by
        cases le with
        | none =>
          simp only [Bool.not_eq_true'] at h2
          subst h2
          exact ⟨_, po_none, rdo_none⟩
        | some le =>
          simp only [Bool.and_eq_true] at h2
          obtain ⟨h4, h5⟩ := h2
          subst h4
          obtain ⟨t, b1, b2⟩ := snd lo g X W _ C h5
          exact ⟨_, po_some b1, rdo_some b2⟩
      have up : ∃ t, PO X ue t ∧ RdO M X.K W t hb (fun φ st => if hb then evE S hi φ st else some (.ok (.pv .non) st)) := by
        cases ue with
        | none =>
          simp only [Bool.not_eq_true'] at h3
          subst h3
          exact ⟨_, po_none, rdo_none⟩
        | some ue =>
          simp only [Bool.and_eq_true] at h3
          obtain ⟨h4, h5⟩ := h3
          subst h4
          obtain ⟨t, b1, b2⟩ := snd hi g X W _ C h5
          exact ⟨_, po_some b1, rdo_some b2⟩
      obtain ⟨tl, l1, l2⟩ := lp
      obtain ⟨tu, u1, u2⟩ := up
      exact ⟨_, pe_slice sl_list a1 l1 u1, rd_slc a2 l2 u2⟩
    · cases h
  | .isn neg a, g, X, W, e, C, h => by
    unfold chkE at h
    split at h
    · simp only [Bool.and_eq_true, decide_eq_true_eq] at h
      obtain ⟨h1, h2⟩ := h
      subst h1
      obtain ⟨t, a1, a2⟩ := snd a g X W _ C h2
      exact ⟨_, pe_cmpR (op_isNB neg) a1 pe_non (noSet rfl _), rd_isn a2⟩
    · cases h
  | .isi ty a, g, X, W, e, C, h => by
    unfold chkE at h
    split at h
    · simp only [Bool.and_eq_true, decide_eq_true_eq, Bool.not_eq_true'] at h
      obtain ⟨⟨⟨⟨⟨h1, h2⟩, h3⟩, h4⟩, hst⟩, h5⟩ := h
      subst h1 h2
      obtain ⟨g1, g2⟩ := C.gl h3
      obtain ⟨g3, g4⟩ := C.gl h4
      obtain ⟨t, a1, a2⟩ := snd a g X W _ C h5
      refine ⟨_, pe_callB call_isi g1 C.bis (by decide +kernel) (pa_cons a1 (pa_cons (pe_bltn (v := .ty (tyS ty)) g3 (C.bt ty) (ty_boot ty) rfl (by cases ty <;> decide) g4) pa_nil) (star_each hst)) (by decide) (by decide) (star_each hst) (by rfl), rd_isi a2⟩
    · cases h
  | .bi b es, g, X, W, e, C, h => by
    unfold chkE at h
    split at h
    · rename_i f fp xs pos
      simp only [Bool.and_eq_true, decide_eq_true_eq, Bool.not_eq_true'] at h
      obtain ⟨⟨⟨h1, h2⟩, h3⟩, h4⟩ := h
      subst h1
      obtain ⟨g1, g2⟩ := C.gl h2
      have hs := snds es g X W _ C h4
      obtain ⟨t, a1, a2⟩ := hs.pa
      have st := hs.star
      cases xs with
      | nil =>
        have := hs.len
        cases es <;> simp at this h3
      | cons y ys =>
        simp only [List.all_cons, Bool.and_eq_true, Bool.not_eq_true'] at st
        exact ⟨_, pe_bi C.calm g1 (C.bi b) a1 (star_each st.1) (star_plain st.2), rd_biC a2⟩
    · cases h
  | .bm m r es, g, X, W, e, C, h => by
    unfold chkE at h
    split at h
    · rename_i o a apos xs cpos
      simp only [Bool.and_eq_true, decide_eq_true_eq, Bool.not_eq_true'] at h
      obtain ⟨⟨⟨⟨⟨⟨h1, h2⟩, h3⟩, hl⟩, h4⟩, h5⟩, h6⟩ := h
      subst h1
      obtain ⟨to, o1, o2⟩ := snd r g X W _ C h2
      have hs := snds es g X W _ C h6
      obtain ⟨t, a1, a2⟩ := hs.pa
      have st := hs.star
      have len := hs.len
      cases xs with
      | nil => cases es <;> simp at len h3
      | cons y ys =>
        have st' := st
        simp only [List.all_cons, Bool.and_eq_true, Bool.not_eq_true'] at st
        exact ⟨_, pe_bmZ C.un m o1 a1 (base_plain h5) (few_ok st' (by rw [← len]; exact hl)) h4 (star_each st.1) (star_plain st.2), rd_bmC o2 a2⟩
    · cases h
  | .call f es, g, X, W, e, C, h => by
    unfold chkE at h
    split at h
    · rename_i x p xs pos
      simp only [Bool.and_eq_true, decide_eq_true_eq, Bool.not_eq_true'] at h
      obtain ⟨⟨⟨h1, h2⟩, h3⟩, h4⟩ := h
      obtain ⟨g1, g2⟩ := C.gl h2
      obtain ⟨a, fd, ps, F, hm, hk, hb⟩ := C.calls f _ _ h1
      have hs := snds es g X W _ C h4
      obtain ⟨t, a1, a2⟩ := hs.pa
      have st := hs.star
      have len := hs.len
      cases xs with
      | nil => cases es <;> simp at len h3
      | cons y ys =>
        simp only [List.all_cons, Bool.and_eq_true, Bool.not_eq_true'] at st
        exact ⟨_, pe_callSD F C.hr g1 hm hk hb .nil (fun σ => passAt C.takes σ) a1 g2 (star_each st.1) (star_plain st.2), rd_callC rfl a2⟩
    · cases h
  | .lc live elt tg ik src ifs own, g, X, W, e, C, h => by
    unfold chkE at h
    split at h
    · rename_i elx gs scope pos
      split at h
      · rename_i t it is ow hc ho
        split at h
        · rename_i xs hsrc
          simp only [Bool.and_eq_true] at h
          obtain ⟨⟨⟨⟨⟨h1, hown⟩, h2⟩, h3⟩, h4⟩, h5⟩ := h
          have B := blkOk_by h1
          have hgs : gs = [⟨t, it, is, 0⟩] := by
            unfold comps at hc
            split at hc
            · split at hc
              · rename_i ha
                simp only [Option.some.injEq, Prod.mk.injEq] at hc
                obtain ⟨e1, e2, e3⟩ := hc
                subst e1 e2 e3 ha; rfl
              · cases hc
            · cases hc
          subst hgs
          have how : ∀ (own : List Nat) (ow : List (Str × Nat)), ownOf g.N own = some ow → ow.map (·.2) = own := by
            intro own
            induction own with
            | nil => intro ow e; simp only [ownOf, Option.some.injEq] at e; subst e; rfl
            | cons i r ih =>
              intro ow e
              unfold ownOf at e
              split at e
              · simp only [Option.map_eq_some_iff] at e
                obtain ⟨ow', e1, e2⟩ := e
                subst e2
                simp [ih ow' e1]
              · cases e
          have hown2 := how own ow ho
          obtain ⟨wi, i1, i2, i3⟩ := iter_ok C hsrc (snds src g X W _ C h3) (tg := t)
          have B' : BlkOk X.N X.env.scope scope ow := by rw [C.N, C.sc]; exact B
          have sub : ∀ i ∈ slotsG tg, i ∈ own := fun i hi => by
            have := List.all_eq_true.mp hown i hi
            simpa using this
          obtain ⟨tg', hg1, hg2⟩ := all_PG (Xs := fun b : Blk => b.cx X scope) (K := X.K) (M := M) fun b => tgt (C.blk scope b.s b.H b.A b.cl b.fp) tg t h2
          obtain ⟨te, he1, he2⟩ := all_PE (Xs := fun b : Blk => b.cx X scope) (K := X.K) (W := W0) (M := M) fun b => snd elt (g.blk scope) (b.cx X scope) W0 elx (C.blk scope b.s b.H b.A b.cl b.fp) h5
          have tests : ∃ tt, (∀ b : Blk, PTs (b.cx X scope) is tt) ∧ RdTurn M X.K tt te fun φ st => evIf S ifs φ st fun st => R.bs (evE S elt φ st) fun y st => some (.ok [y] st) := by
            match ifs, h4 with
            | [], h4 =>
              simp only [chkIfs, List.isEmpty_iff] at h4
              subst h4
              exact ⟨tYes, fun b => pts_nil, turn_nil he2⟩
            | c :: cs, h4 =>
              match cs, is, h4 with
              | [], [e'], h4 =>
                simp only [chkIfs] at h4
                obtain ⟨tt, t1, t2⟩ := all_PT (Xs := fun b : Blk => b.cx X scope) (K := X.K) (W := W0) (M := M) fun b => sndT c (g.blk scope) (b.cx X scope) W0 e' (C.blk scope b.s b.H b.A b.cl b.fp) h4
                exact ⟨tt, fun b => pts_one (t1 b), turn_one t2 he2⟩
              | [], [], h4 => simp [chkIfs] at h4
              | [], _ :: _ :: _, h4 => simp [chkIfs] at h4
              | _ :: _, _, h4 => simp [chkIfs] at h4
          obtain ⟨tt, t1, t2⟩ := tests
          refine ⟨_, pe_lc C.calm C.nd i1 B' (fun s H A cl fp => hg1 ⟨s, H, A, cl, fp⟩) (fun s H A cl fp => t1 ⟨s, H, A, cl, fp⟩) (fun s H A cl fp => he1 ⟨s, H, A, cl, fp⟩) (fun x => i3 X.env x), ?_⟩
          rw [hown2]
          exact rd_lc i2 hg2 sub t2
        · cases h
      · cases h
    · cases h
  | .frz a, g, X, W, e, C, h => by
    simp only [chkE] at h
    obtain ⟨t, h1, h2⟩ := snd a g X W _ C h
    exact ⟨t, h1, rd_frz h2⟩
theorem snds : ∀ (ms : List ME) (g : SC) (X : Cx) (W : WX) (es : List Expr), Cok X g M S W k → chkEs g ms es = true → SEs X M S W ms es
  | [], g, X, W, es, C, h => by
    simp only [chkEs, List.isEmpty_iff] at h
    exact h
  | m :: ms, g, X, W, [], C, h => by simp [chkEs] at h
  | m :: ms, g, X, W, e :: es, C, h => by
    simp only [chkEs, Bool.and_eq_true, Bool.not_eq_true'] at h
    exact ⟨e, es, rfl, h.1.1, snd m g X W e C h.1.2, snds ms g X W es C h.2⟩
theorem sndT : ∀ (m : MT) (g : SC) (X : Cx) (W : WX) (e : Expr), Cok X g M S W k → chkT g m e = true → ST X M S W m e
  | .val m, g, X, W, e, C, h => by
    simp only [chkT, Bool.and_eq_true] at h
    obtain ⟨hp, h⟩ := h
    obtain ⟨t, h1, h2⟩ := snd m g X W _ C h
    exact ⟨_, pt_truth h1 (plain_true hp), fun σ H Q φ F ρ st r hh hs e p => rd_tru1 h2 σ H Q φ F ρ st r hh hs (by simp only [evT] at e; exact e) p⟩
  | .cmp op a b, g, X, W, e, C, h => by
    unfold chkT at h
    split at h
    · simp only [Bool.and_eq_true, decide_eq_true_eq, Bool.not_eq_true'] at h
      obtain ⟨⟨⟨h1, hs⟩, h2⟩, h3⟩ := h
      subst h1
      obtain ⟨ta, a1, a2⟩ := snd a g X W _ C h2
      obtain ⟨tb, b1, b2⟩ := snd b g X W _ C h3
      exact ⟨_, pt_cmpR (op_cmp C.un op) a1 b1 (noSet hs _), fun σ H Q φ F ρ st r hh hs e p => rd_cmpT a2 b2 op σ H Q φ F ρ st r hh hs (by simp only [evT] at e; exact e) p⟩
    · cases h
  | .isn neg a, g, X, W, e, C, h => by
    unfold chkT at h
    split at h
    · simp only [Bool.and_eq_true, decide_eq_true_eq] at h
      obtain ⟨h1, h2⟩ := h
      subst h1
      obtain ⟨ta, a1, a2⟩ := snd a g X W _ C h2
      exact ⟨_, pt_cmpR (op_isNB neg) a1 pe_non (noSet rfl _), fun σ H Q φ F ρ st r hh hs e p => rd_isnT a2 σ H Q φ F ρ st r hh hs (by simp only [evT] at e; exact e) p⟩
    · cases h
  | .boolop c ts, g, X, W, e, C, h => by
    cases e <;> simp only [chkT, Bool.and_eq_true, decide_eq_true_eq, Bool.not_eq_true', Bool.false_eq_true] at h
    obtain ⟨⟨h1, h2⟩, h3⟩ := h
    subst h1
    obtain ⟨t, h4, h5⟩ := boolopT_ok c _ (by intro z; subst z; simp at h2) (sndTs ts g X W _ C h3)
    exact ⟨t, h4.pt, fun σ H Q φ F ρ st r hh hs e p => h5 σ H Q φ F ρ st r hh hs (by simpa only [evT] using e) p⟩
  | .not t, g, X, W, e, C, h => by
    unfold chkT at h
    split at h
    · obtain ⟨t', h1, h2⟩ := sndT t g X W _ C h
      exact ⟨_, pt_not h1, fun σ H Q φ F ρ st r hh hs e p => rd_notT h2 σ H Q φ F ρ st r hh hs (by simpa only [evT] using e) p⟩
    · cases h
theorem sndTs : ∀ (ms : List MT) (g : SC) (X : Cx) (W : WX) (es : List Expr), Cok X g M S W k → chkTs g ms es = true → STs X M S W ms es
  | [], g, X, W, es, C, h => by
    simp only [chkTs, List.isEmpty_iff] at h
    exact h
  | m :: ms, g, X, W, [], C, h => by simp [chkTs] at h
  | m :: ms, g, X, W, e :: es, C, h => by
    simp only [chkTs, Bool.and_eq_true] at h
    exact ⟨e, es, rfl, sndT m g X W e C h.1, sndTs ms g X W es C h.2⟩
end
end
end Z
end

section
/-! ZQ: statements. -/
namespace Z
open PySem PySem.Spec PyProof.Rows L2
/-! ### the look -/
def bkd (g : SC) : ScopeKind := if g.sc.kind.isAnnotationScope then .function else g.sc.kind
/-- does `name = [..]` store within the comprehension -/
def swC (g : SC) (v : Expr) (t : Str) (tp : Pos) : Bool := match v with
  | .ListComp _ _ s _ | .SetComp _ _ s _ | .DictComp _ _ _ s _ => bkd g == .function && g.sc.names.lookup t == some .local && tp.line == v.pos.line && !(s.names.any fun (n, k) => n == t && (k == .local || k == .cell))
  | _ => false
def swNames (g : SC) (ts : List Expr) : List Str := ts.filterMap fun
    | .Name id pos => if g.sc.names.lookup id == some .local && pos.line == (ts.head?.map (·.pos.line)).getD 0 then some id else none
    | _ => none
def swp (g : SC) (ts vs : List Expr) : Option (Option (List Str)) :=
  if !(ts.length == 2 || ts.length == 3) || vs.length != ts.length || bkd g != .function then some none else
  if vs.any isStar then some none else
  if (swNames g ts).length != ts.length || (swNames g ts).eraseDups.length != (swNames g ts).length then some none else
  if vs.all (foldedForSure 8) then some none else
  if vs.all (constantsAlone 8) then none else some (some (swNames g ts))
theorem swp_ok {g : SC} {ts vs : List Expr} {env : Env} {k k' : Nat} {p p' : Pos} {r : Option (List Str)} (hs : env.scope = g.sc) (h : swp g ts vs = some r) : swappedStores [.Tuple ts k p] (.Tuple vs k' p') env = pure r := by
  have hb : env.blockKind = bkd g := by unfold Env.blockKind bkd; rw [hs]
  have hk : ∀ x, env.kindOf x = g.sc.names.lookup x := fun x => by unfold Env.kindOf; rw [hs]
  have hv : isStar = (fun e : Expr => match e with | .Starred .. => true | _ => false) := by funext e; cases e <;> rfl
  unfold swappedStores
  unfold swp at h
  rw [hv] at h
  simp only [pure_bind, hb, hk]
  by_cases h1 : (!(ts.length == 2 || ts.length == 3) || vs.length != ts.length || bkd g != .function) = true
  · rw [if_pos h1] at h
    refine (if_pos h1).trans ?_
    cases h; rfl
  rw [if_neg h1] at h
  refine (if_neg h1).trans ?_
  split at h
  · rename_i h2
    refine (if_pos h2).trans ?_
    cases h; rfl
  rename_i h2
  refine (if_neg h2).trans ?_
  by_cases h3 : ((swNames g ts).length != ts.length || (swNames g ts).eraseDups.length != (swNames g ts).length) = true
  · rw [if_pos h3] at h
    refine (if_pos h3).trans ?_
    cases h; rfl
  rw [if_neg h3] at h
  refine (if_neg h3).trans ?_
  by_cases h4 : vs.all (foldedForSure 8) = true
  · rw [if_pos h4] at h
    refine (if_pos h4).trans ?_
    cases h; rfl
  rw [if_neg h4] at h
  refine (if_neg h4).trans ?_
  by_cases h5 : vs.all (constantsAlone 8) = true
  · rw [if_pos h5] at h
    cases h
  rw [if_neg h5] at h
  refine (if_neg h5).trans ?_
  cases h; rfl
/-- which way an assignment goes -/
inductive Way where
  | plain | comp | par (ns : List Str)
def wayOf (g : SC) (t v : Expr) : Option Way := match t with
  | .Name x p => if swC g v x p then some .comp else some .plain
  | .Tuple ts _ _ => (match v with
    | .Tuple vs _ _ => (match swp g ts vs with
      | some none => some .plain
      | some (some ns) => some (.par ns)
      | none => none)
    | _ => some .plain)
  | .Subscript _ i _ => if isSlice i then none else some .plain
  | _ => none
def loc1 (g : SC) (x : Str) : Bool := decide (g.sc.names.lookup x = some .local)
/-- a, b = x, y by names -/
def parOk (g : SC) (ns : List Str) : MG → ME → Expr → Expr → Bool
  | .tp [.nm i, .nm j], .tup [_, _], .Tuple [.Name x _, .Name y _] _ _, .Tuple [a, b] _ _ => decide (i ≠ j) && loc1 g x && loc1 g y && decide (ns = [x, y])
  | .tp [.nm i, .nm j, .nm l], .tup [_, _, _], .Tuple [.Name x _, .Name y _, .Name z _] _ _, .Tuple [a, b, c] _ _ => decide (i ≠ j) && decide (i ≠ l) && decide (j ≠ l) && loc1 g x && loc1 g y && loc1 g z && decide (ns = [x, y, z])
  | _, _, _, _ => false
def isLc : ME → Expr → Bool
  | .lc .., .ListComp .. => true
  | _, _ => false
def wayOk (g : SC) (m : MG) (e : ME) (t v : Expr) : Bool := match wayOf g t v with
  | some .plain => true
  | some .comp => isLc e v
  | some (.par ns) => parOk g ns m e t v
  | none => false
mutual
def chkS (g : SC) : MS → Stmt → Bool
  | .pass, s => (match s with
    | .Pass _ => true
    | .Expr (.Constant (.str _) _ _) _ => true
    | _ => false)
  | .ex e, s => (match s with
    | .Expr x _ => !isComp x && chkE g e x
    | _ => false)
  | .asg m e, s => (match s with
    | .Assign [t] v _ => chkG g m t && chkE g e v && wayOk g m e t v
    | _ => false)
  | .asgI a i e, s => (match s with
    | .Assign [.Subscript o x _] v _ => !isSlice x && chkE g a o && chkE g i x && chkE g e v
    | _ => false)
  | .aug i op e, s => (match s with
    | .AugAssign (.Name x _) o v _ => decide (o = opB op) && decide (g.N[i]? = some x) && loc? g x && chkE g e v
    | _ => false)
  | .augI a i op e, s => (match s with
    | .AugAssign (.Subscript o x _) p v _ => decide (p = opB op) && !isSlice x && chkE g a o && chkE g i x && chkE g e v
    | _ => false)
  | .iff c a b, s => (match s with
    | .If c' a' b' _ => chkT g c c' && chkSs g a a' && chkSs g b b'
    | _ => false)
  | .whl c a, s => (match s with
    | .While c' a' [] _ => chkT g c c' && chkSs g a a'
    | _ => false)
  | .for_ tg ik src a, s => (match s with
    | .For t it a' [] _ => (match srcOf g ik it with
      | some xs => chkG g tg t && chkEs g src xs && chkSs g a a'
      | none => false)
    | _ => false)
  | .ret e, s => (match s with
    | .Return (some x) _ => chkE g e x
    | _ => false)
  | .retN, s => (match s with
    | .Return none _ => true
    | _ => false)
  | .brk, s => (match s with
    | .Break _ => true
    | _ => false)
  | .cnt, s => (match s with
    | .Continue _ => true
    | _ => false)
def chkSs (g : SC) : List MS → List Stmt → Bool
  | [], ss => ss.isEmpty
  | m :: ms, ss => (match ss with
    | s :: ss => chkS g m s && chkSs g ms ss
    | [] => false)
end
section
variable {X : Cx} {g : SC} {M : Nm} {S : Sem} {W : WX} {k : Nat}
def SS (X : Cx) (M : Nm) (S : Sem) (W : WX) (m : MS) (s : Stmt) : Prop := ∃ t, PS X s t ∧ RdS M X.K W t (exS S m)
def SSs (X : Cx) (M : Nm) (S : Sem) (W : WX) (ms : List MS) (ss : List Stmt) : Prop := ∃ t, PSs X ss t ∧ RdS M X.K W t (exSs S ms)
/-! ### readings -/
theorem rd_seq {t u : TS} {f : Slots → Store → Option FR} {ms : List MS} (h : RdS M X.K W t f) (h' : RdS M X.K W u (exSs S ms)) :
    RdS M X.K W (tSeq t u) fun φ st => match f φ st with
      | some (.nx φ st) => exSs S ms φ st
      | r => r := by
  intro D σ H φ F ρ st r hh hs e p
  show t { D with nx := u D } σ H
  dsimp only at e
  cases q : f φ st with
  | none => rw [q] at e; cases e
  | some a =>
    rw [q] at e
    refine h _ σ H φ F ρ st a hh hs q ?_
    cases a with
    | nx φ1 st1 => exact fun F1 ρ1 H1 σ1 g1 h1 s1 => h' D σ1 H1 φ1 F1 ρ1 st1 r h1 s1 e (p.g g1)
    | rt v st1 => cases e; exact p
    | bk φ1 st1 => cases e; exact p
    | ct φ1 st1 => cases e; exact p
    | ex x φ1 st1 => cases e; exact p
theorem rd_drop {t : TE} {f : Slots → Store → Option ER} (h : RdE M X.K W t f) : RdS M X.K W (tDrop t) fun φ st => R.bf φ (f φ st) fun _ st => some (.nx φ st) := by
  intro D σ H φ F ρ st r hh hs e p
  refine h.bindS (U := fun _ H1 => D.nx σ H1) hh hs e p fun x st1 F1 ρ1 H1 v e1 g1 h1 r1 p1 => ?_
  simp only [Option.some.injEq] at e1
  subst e1
  exact p1 F1 ρ1 H1 σ (G.refl _ _ _) h1 (hs.g g1)
theorem rd_ret {t : TE} {f : Slots → Store → Option ER} (h : RdE M X.K W t f) : RdS M X.K W (tRet t) fun φ st => R.bf φ (f φ st) fun v st => some (.rt v st) := by
  intro D σ H φ F ρ st r hh hs e p
  refine h.bindS (U := D.rt) hh hs e p fun x st1 F1 ρ1 H1 v e1 g1 h1 r1 p1 => ?_
  simp only [Option.some.injEq] at e1
  subst e1
  exact p1 F1 ρ1 H1 v (G.refl _ _ _) h1 r1
theorem rd_asg {te : TE} {tg : TG} {f : Slots → Store → Option ER} {m : MG} (h : RdE M X.K W te f) (hg : RdG M X.K tg m) : RdS M X.K W (tAsg te tg) fun φ st => R.bf φ (f φ st) fun v st => (asgG m v φ).map fun φ => .nx φ st := by
  intro D σ H φ F ρ st r hh hs e p
  refine h.bindS (U := fun x H1 => tg x σ H1 D.nx) hh hs e p fun x st1 F1 ρ1 H1 v e1 g1 h1 r1 p1 => ?_
  simp only [Option.map_eq_some_iff] at e1
  obtain ⟨φ1, e2, e3⟩ := e1
  subst e3
  exact hg x v φ φ1 σ F1 ρ1 H1 st1 _ h1 (hs.g g1) r1 e2 fun σ1 s1 _ => p1 F1 ρ1 H1 σ1 (G.refl _ _ _) h1 s1
theorem rd_if {tc : TT} {t u : TS} {f : Slots → Store → Option ET} {a b : Slots → Store → Option FR} (hc : RdT M X.K W tc f) (ha : RdS M X.K W t a) (hb : RdS M X.K W u b) :
    RdS M X.K W (tIfS tc t u) fun φ st => T.bf φ (f φ st) fun d st => if d then a φ st else b φ st := by
  intro D σ H φ F ρ st r hh hs e p
  refine hc.bindS (U := fun b H1 => if b = true then t D σ H1 else u D σ H1) hh hs e p fun d st1 F1 ρ1 H1 e1 g1 h1 p1 => ?_
  cases d with
  | true => exact ha D σ H1 φ F1 ρ1 st1 r h1 (hs.g g1) e1 p1
  | false => exact hb D σ H1 φ F1 ρ1 st1 r h1 (hs.g g1) e1 p1
theorem rd_while {tc : TT} {tb : TS} {f : Slots → Store → Option ET} {a : Slots → Store → Option FR} {n : Nat} (hc : RdT M X.K W tc f) (hb : RdS M X.K W tb a) : RdS M X.K W (tWhile tc tb) (whLoop f a n) := by
  intro D σ H φ F ρ st r hh hs e p
  obtain ⟨Inv, hInv⟩ : ∃ Inv : Nat → L2.St → Hp → Prop, Inv = fun m σ' H' => ∃ φ F2 ρ2 st2, G F ρ H F2 ρ2 H' ∧ HR' M X.K F2 ρ2 H' st2 ∧ SL X.K F2 ρ2 σ' φ ∧ whLoop f a m φ st2 = some r := ⟨_, rfl⟩
  refine ⟨Inv, ⟨n, by rw [hInv]; exact ⟨φ, F, ρ, st, G.refl _ _ _, hh, hs, e⟩⟩, ?_⟩
  intro m σ1 H1 hI
  rw [hInv] at hI
  obtain ⟨φ1, F1, ρ1, st1, g1, h1, s1, e1⟩ := hI
  cases m with
  | zero => cases e1
  | succ m =>
    unfold whLoop at e1
    refine hc.bindS (U := fun b H2 => if b = true then ∃ N : L2.St → Hp → Prop, (∀ σ' H', N σ' H' → ∃ m', m' < m + 1 ∧ Inv m' σ' H') ∧ tb { D with nx := N, ct := N, bk := D.nx } σ1 H2 else D.nx σ1 H2) h1 s1 e1 (p.g g1) fun b st2 F2 ρ2 H2 e2 g2 h2 p2 => ?_
    cases b with
    | false =>
      rw [if_neg Bool.false_ne_true]
      simp only [Bool.false_eq_true, if_false, Option.some.injEq] at e2
      subst e2
      exact p2 F2 ρ2 H2 σ1 (G.refl _ _ _) h2 (s1.g g2)
    | true =>
      rw [if_pos rfl]
      refine ⟨Inv m, fun σ' H' q => ⟨m, Nat.lt_succ_self m, q⟩, ?_⟩
      simp only [if_true] at e2
      cases q : a φ1 st2 with
      | none => rw [q] at e2; cases e2
      | some r2 =>
        rw [q] at e2
        refine hb _ σ1 H2 φ1 F2 ρ2 st2 r2 h2 (s1.g g2) q ?_
        cases r2 with
        | nx φ3 st3 => exact fun F3 ρ3 H3 σ3 g3 h3 s3 => by rw [hInv]; exact ⟨φ3, F3, ρ3, st3, (g1.trans g2).trans g3, h3, s3, e2⟩
        | ct φ3 st3 => exact fun F3 ρ3 H3 σ3 g3 h3 s3 => by rw [hInv]; exact ⟨φ3, F3, ρ3, st3, (g1.trans g2).trans g3, h3, s3, e2⟩
        | bk φ3 st3 => cases e2; exact fun F3 ρ3 H3 σ3 g3 h3 s3 => p2 F3 ρ3 H3 σ3 g3 h3 s3
        | rt v st3 => cases e2; exact p2
        | ex x φ3 st3 => cases e2; exact p2
theorem rd_for {wi : TI} {tg : TG} {tb : TS} {m : MG} {ik : IK} {src : List ME} {body : List MS} (hi : RdI M X.K W S wi ik src) (hg : RdG M X.K tg m) (hb : RdS M X.K W tb (exSs S body)) : RdS M X.K W (tFor wi tg tb) (exS S (.for_ m ik src body)) := by
  intro D σ H φ F ρ st r hh hs e post
  obtain ⟨hok, hex⟩ := hi σ H _ φ F ρ st hh hs
  simp only [exS] at e
  cases q : evEs S src φ st with
  | none => rw [q] at e; cases e
  | some rs =>
    rw [q] at e
    cases rs with
    | ex x st1 =>
      have e' : r = .ex x φ st1 := (Option.some.inj e).symm
      subst e'
      exact hex x st1 q fun F1 ρ1 H1 cls d g1 h1 x1 => post F1 ρ1 H1 σ cls d g1 h1 (hs.g g1) x1
    | ok vs st1 =>
      simp only [Rs.bf] at e
      cases qu : unpv vs with
      | none => simp [qu] at e
      | some ps =>
        simp only [qu] at e
        cases qi : items ik ps with
        | none => simp [qi] at e
        | some xs =>
          simp only [qi] at e
          refine hok vs st1 ps xs q qu qi fun F1 ρ1 H1 J g1 h1 ito => ?_
          obtain ⟨step, hstep⟩ : ∃ step : PV → Slots → Store → Option FR, step = fun x φ st => match asgG m (.pv x) φ with
            | some φ => exSs S body φ st
            | none => none := ⟨_, rfl⟩
          have e : forLoop step xs φ st1 = some r := by rw [hstep]; exact e
          obtain ⟨Inv, hInv⟩ : ∃ Inv : Nat → L2.St → Hp → Prop, Inv = fun i σ' H' => i ≤ xs.length ∧ ∃ φ F2 ρ2 st2, G F1 ρ1 H1 F2 ρ2 H' ∧ HR' M X.K F2 ρ2 H' st2 ∧ SL X.K F2 ρ2 σ' φ ∧ forLoop step (xs.drop i) φ st2 = some r := ⟨_, rfl⟩
          refine ⟨fun i n σ' H' => n = xs.length - i ∧ Inv i σ' H', ⟨xs.length, by simp, by rw [hInv]; exact ⟨Nat.zero_le _, φ, F1, ρ1, st1, G.refl _ _ _, h1, hs.g g1, by simpa using e⟩⟩, ?_⟩
          rintro i n σ2 H2 ⟨rfl, hI⟩
          rw [hInv] at hI
          obtain ⟨hi, φ2, F2, ρ2, st2, g2, h2, s2, e2⟩ := hI
          by_cases hlt : i < xs.length
          · refine .inr ?_
            have hx : xs[i]? = some xs[i] := List.getElem?_eq_getElem hlt
            obtain ⟨hgo, hy⟩ := ito.at_ i xs[i] F2 H2 hx g2.sub h2.sub
            rw [List.drop_eq_getElem_cons hlt] at e2
            unfold forLoop at e2
            refine ⟨hgo, Inv (i + 1), fun σ' H' hN => ⟨xs.length - (i + 1), by omega, rfl, hN⟩, fun x H' hyl => ?_⟩
            have item : ∃ F3 , G F2 ρ2 H2 F3 ρ2 H' ∧ HR' M X.K F3 ρ2 H' st2 ∧ RP X.K F3 xs[i] x := by
              rcases hy x H' hyl with ⟨e1, e2⟩ | ⟨T, o, e0, e1, e2⟩
              · subst e1
                exact ⟨F2, G.refl _ _ _, h2, e2⟩
              · subst e1
                obtain ⟨g3, h3⟩ := h2.new e0 o
                exact ⟨_, g3, h3, e2⟩
            obtain ⟨F3, g3, h3, rx⟩ := item
            cases qs : step xs[i] φ2 st2 with
            | none => rw [qs] at e2; cases e2
            | some r3 =>
              rw [qs] at e2
              rw [hstep] at qs
              cases qa : asgG m (.pv xs[i]) φ2 with
              | none => simp [qa] at qs
              | some φ3 =>
                simp only [qa] at qs
                refine hg (.pv xs[i]) x φ2 φ3 σ2 F3 ρ2 H' st2 _ h3 (s2.g g3) (by simp only [RL]; exact rx) qa fun σ3 s3 _ => ?_
                refine hb _ σ3 H' φ3 F3 ρ2 st2 r3 h3 s3 qs ?_
                have gg := (g2.trans g3)
                cases r3 with
                | nx φ4 st4 => exact fun F4 ρ4 H4 σ4 g4 h4 s4 => by rw [hInv]; exact ⟨hlt, φ4, F4, ρ4, st4, gg.trans g4, h4, s4, e2⟩
                | ct φ4 st4 => exact fun F4 ρ4 H4 σ4 g4 h4 s4 => by rw [hInv]; exact ⟨hlt, φ4, F4, ρ4, st4, gg.trans g4, h4, s4, e2⟩
                | bk φ4 st4 => cases e2; exact fun F4 ρ4 H4 σ4 g4 h4 s4 => post F4 ρ4 H4 σ4 ((g1.trans gg).trans g4) h4 s4
                | rt v st4 => cases e2; exact (post.g g1).g gg
                | ex x φ4 st4 => cases e2; exact (post.g g1).g gg
          · have hi' : i = xs.length := by omega
            subst hi'
            refine .inl ⟨ito.stop F2 H2 g2.sub h2.sub, ?_⟩
            rw [List.drop_length] at e2
            simp only [forLoop, Option.some.injEq] at e2
            subst e2
            exact post F2 ρ2 H2 σ2 (g1.trans g2) h2 s2
/-! ### a op= b -/
def rAugZ (op : BO) : R2 := fun x y H Q => rAug op x y H Q ∨ (op = .add ∧ rExt2 x y H Q)
theorem op_augZ (op : BO) : OpR X (inplaceOp (opB op)) (rAugZ op) := by
  intro pins s σ H x y v u Q I rx ry h
  rcases h with h | ⟨e, h⟩
  · exact op_aug op pins s σ H x y v u Q I rx ry h
  · subst e
    exact iop_ext pins s σ H x y v u Q I rx ry h
theorem rd_augP {F H : Hp} {ρ : List Addr} {st : Store} {σ : L2.St} {op : BO} {p q z : PV} {v w : V} {Q : VK} (hh : HR' M X.K F ρ H st) (hp : PK X.K F H p v) (hq : PK X.K F H q w) (e : doAug op p q = some z) (post : PostE M X.K W σ F ρ H Q (.ok (.pv z) st)) : rAug op v w H Q := by
  cases op <;> cases p <;> simp only [doAug, doBin, reduceCtorEq] at e <;> cases q <;> simp only [doBin, Option.some.injEq, reduceCtorEq] at e
  case add.int.int i j => subst e; exact .inl ⟨i, j, hp.int, hq.int, post.tree hh (by simp only [RP])⟩
  case add.str.str x y =>
    split at e
    · rename_i hl
      simp only [Option.some.injEq] at e
      subst e
      refine .inr ⟨mkS x, mkS y, hp.str.1, hq.str.1, by rw [mkS_len, mkS_len, line_eq]; exact hl, post.tree hh ?_⟩
      simp only [RP]
      exact ⟨by rw [mkS_append], okS_append hp.str.2 hq.str.2⟩
    · cases e
  case sub.int.int i j => subst e; exact ⟨i, j, hp.int, hq.int, post.tree hh (by simp only [RP])⟩
  case mul.int.int i j =>
    split at e
    · rename_i hl
      simp only [Option.some.injEq] at e
      subst e
      exact ⟨i, j, hp.int, hq.int, mulOk_ok hl, post.tree hh (by simp only [RP])⟩
    · cases e
  case fdiv.int.int i j =>
    split at e
    · rename_i hl
      simp only [Option.some.injEq] at e
      subst e
      exact ⟨i, j, hp.int, hq.int, divOk_ok hl, post.tree hh (by simp only [RP])⟩
    · cases e
  case mod.int.int i j =>
    split at e
    · rename_i hl
      simp only [Option.some.injEq] at e
      subst e
      exact ⟨i, j, hp.int, hq.int, hl, post.tree hh (by simp only [RP])⟩
    · cases e
theorem sq_ok {F H : Hp} {ρ : List Addr} {st : Store} {y : LV} {w : V} {ys : List LV} (hh : HR' M X.K F ρ H st) (r : RL X.K F ρ y w) (e : sq st y = some ys) : ∃ b ws, w = .ref b ∧ H b = some (.lst ws) ∧ RLs X.K F ρ ys ws := by
  cases y with
  | tup _ => simp [sq] at e
  | pv p =>
    cases p <;> simp only [sq, Option.some.injEq, reduceCtorEq] at e
    subst e
    simp only [RL, RP] at r
    obtain ⟨b, ws, e1, e2, e3⟩ := r
    exact ⟨b, ws, e1, hh.sub _ _ e2, RLs_pv.mpr e3⟩
  | ref n =>
    simp only [RL] at r
    obtain ⟨b, e1, e2⟩ := r
    obtain ⟨c, ec, hc⟩ := hh.at e2
    simp only [sq, ec] at e
    cases c <;> simp only [Option.some.injEq, reduceCtorEq] at e
    subst e
    obtain ⟨ws, h1, h2, _⟩ := hc
    exact ⟨b, ws, e1, h1, h2⟩
theorem rd_augOp (op : BO) : RdV2 M X.K W (rAugZ op) (augOp op) := by
  intro σ H Q F ρ st x y v w res hh rx ry e p
  cases x with
  | tup _ => simp [augOp] at e
  | pv a =>
    simp only [augOp] at e
    split at e
    · rename_i q hq
      cases ez : doAug op a q with
      | none => simp [ez, okP] at e
      | some z =>
        simp only [ez, okP, Option.some.injEq] at e
        subst e
        exact .inl (rd_augP hh (peek_ok hh rx (by simp only [peek])) (peek_ok hh ry hq) ez p)
    · cases e
  | ref n =>
    simp only [augOp] at e
    split at e
    · rename_i xs ys e1 e2
      split at e
      · rename_i hl
        simp only [Option.some.injEq] at e
        subst e
        simp only [RL] at rx
        obtain ⟨a, ea, en⟩ := rx
        obtain ⟨c, ec, hc⟩ := hh.at en
        rw [e1] at ec
        cases ec
        obtain ⟨vs, h1, h2, h3, _⟩ := hc
        obtain ⟨b, ws, eb, hb, rb⟩ := sq_ok hh ry e2
        refine .inr ⟨rfl, a, b, vs, ws, ea, eb, h1, hb, by rw [← h2.length, ← rb.length, line_eq]; exact hl, ?_⟩
        obtain ⟨g2, hh2⟩ := hh.write en (h3 rfl) (o := .lst (vs ++ ws)) (c := .lst true (xs ++ ys)) ⟨_, upd_same, h2.append rb, fun _ => h3 rfl, fun z => Bool.noConfusion z⟩
        exact p _ _ _ _ g2 hh2 (by simp only [RL]; exact ⟨a, rfl, en⟩)
      · cases e
    · cases e
theorem rd_augS {te : TE} {f : Slots → Store → Option ER} {op : BO} {i : Nat} (h : RdE M X.K W te f) : RdS M X.K W (tAug i te (rAugZ op)) fun φ st => match φ[i]? with
    | some (some x) => R.bf φ (f φ st) fun y st => R.bf φ (augOp op x y st) fun z st => some (.nx (φ.set i (some z)) st)
    | _ => none := by
  intro D σ H φ F ρ st r hh hs e p
  dsimp only at e
  split at e
  · rename_i x hx
    obtain ⟨v, hv, rv⟩ := hs.2 i x hx
    refine ⟨v, hv, ?_⟩
    refine h.bindS (U := fun y H1 => rAugZ op v y H1 fun z H2 => D.nx (σ.set i (some z)) H2) hh hs e p fun y st1 F1 ρ1 H1 w e1 g1 h1 r1 p1 => ?_
    cases q : augOp op x y st1 with
    | none => rw [q] at e1; cases e1
    | some a =>
      rw [q] at e1
      refine rd_augOp op σ H1 _ F1 ρ1 st1 x y v w a h1 (RL.mono g1.sub g1.pre _ _ rv) r1 q (W := W) ?_
      cases a with
      | ok z st2 =>
        cases e1
        exact fun F2 ρ2 H2 u g2 h2 r2 => p1 F2 ρ2 H2 _ g2 h2 ((hs.g (g1.trans g2)).set i r2)
      | ex x st2 =>
        cases e1
        exact fun F2 ρ2 H2 cls d g2 h2 x2 => p1 F2 ρ2 H2 σ cls d g2 h2 (hs.g (g1.trans g2)) x2
  · cases e
/-! ### a[i] = x -/
def rSetD : V → V → V → Hp → (Hp → Prop) → Prop := fun o i v H Q => ∃ a H', o = .ref a ∧ DPut H a i v H' ∧ Q H'
def rSetZ : V → V → V → Hp → (Hp → Prop) → Prop := fun o i v H Q => rSetL o i v H Q ∨ rSetD o i v H Q
theorem set_Z (hu : room2 X) : PSet X rSetZ := by
  intro pins s σ H o i v ov iv u Q I ro ri rv h
  rcases h with h | ⟨a, H', e, g, q⟩
  · exact set_list pins s σ H o i v ov iv u Q I ro ri rv h
  · subst e
    obtain rfl : ov = Value.ref a := ro
    exact d_setItem (by have h1 : X.A.units + 2100 < cLine := hu; omega) I g ri rv fun s4 I4 => ⟨H', I4, q⟩
section
variable {K : PySem.W.Frag} {F : Hp} {ρ : List Addr}
theorem any_k {k : Ky} : ∀ {kvs : List (Ky × LV)} {ks : List (Key × V)}, RLk K F ρ kvs ks → (ks.any fun kv => decide (kv.1 = kyS k)) = has k kvs
  | [], ks, h => by simp only [RLk] at h; subst h; rfl
  | (j, p) :: r, ks, h => by
    simp only [RLk] at h
    obtain ⟨v, s, e1, e2, e3, e4⟩ := h
    subst e1
    by_cases hj : j = k
    · subst hj; simp [has, look]
    · have hn : ¬ kyS j = kyS k := fun e => hj (kyS_inj e)
      have ih := any_k (k := k) e4
      simp only [has, look, if_neg hj, List.any_cons, hn, decide_false, Bool.false_or] at ih ⊢
      exact ih
theorem any_t {k : List Ky} : ∀ {kvs : List (List Ky × LV)} {ks : List (List Key × V)}, RLt K F ρ kvs ks → (ks.any fun kv => decide (kv.1 = k.map kyS)) = has k kvs
  | [], ks, h => by simp only [RLt] at h; subst h; rfl
  | (j, p) :: r, ks, h => by
    simp only [RLt] at h
    obtain ⟨v, s, e1, e2, e3, e4⟩ := h
    subst e1
    by_cases hj : j = k
    · subst hj; simp [has, look]
    · have hn : ¬ j.map kyS = k.map kyS := fun e => hj (kySs_inj e)
      have ih := any_t (k := k) e4
      simp only [has, look, if_neg hj, List.any_cons, hn, decide_false, Bool.false_or] at ih ⊢
      exact ih
theorem map_k {k : Ky} {x : LV} {v : V} (rx : RL K F ρ x v) : ∀ {kvs : List (Ky × LV)} {ks : List (Key × V)}, RLk K F ρ kvs ks → RLk K F ρ (kvs.map fun kv => if kv.1 = k then (kv.1, x) else kv) (ks.map fun kv => if kv.1 = kyS k then (kv.1, v) else kv)
  | [], ks, h => by simp only [RLk] at h; subst h; simp [RLk]
  | (j, p) :: r, ks, h => by
    simp only [RLk] at h
    obtain ⟨w, s, e1, e2, e3, e4⟩ := h
    subst e1
    have ih := map_k (k := k) rx e4
    by_cases hj : j = k
    · subst hj
      simp only [List.map_cons, if_true, RLk]
      exact ⟨v, _, rfl, e2, rx, ih⟩
    · have hn : ¬ kyS j = kyS k := fun e => hj (kyS_inj e)
      simp only [List.map_cons, if_neg hj, if_neg hn, RLk]
      exact ⟨w, _, rfl, e2, e3, ih⟩
theorem map_t {k : List Ky} {x : LV} {v : V} (rx : RL K F ρ x v) : ∀ {kvs : List (List Ky × LV)} {ks : List (List Key × V)}, RLt K F ρ kvs ks → RLt K F ρ (kvs.map fun kv => if kv.1 = k then (kv.1, x) else kv) (ks.map fun kv => if kv.1 = k.map kyS then (kv.1, v) else kv)
  | [], ks, h => by simp only [RLt] at h; subst h; simp [RLt]
  | (j, p) :: r, ks, h => by
    simp only [RLt] at h
    obtain ⟨w, s, e1, e2, e3, e4⟩ := h
    subst e1
    have ih := map_t (k := k) rx e4
    by_cases hj : j = k
    · subst hj
      simp only [List.map_cons, if_true, RLt]
      exact ⟨v, _, rfl, e2, rx, ih⟩
    · have hn : ¬ j.map kyS = k.map kyS := fun e => hj (kySs_inj e)
      simp only [List.map_cons, if_neg hj, if_neg hn, RLt]
      exact ⟨w, _, rfl, e2, e3, ih⟩
theorem snoc_k {k : Ky} {x : LV} {v : V} (hk : okK k = true) (rx : RL K F ρ x v) : ∀ {kvs : List (Ky × LV)} {ks : List (Key × V)}, RLk K F ρ kvs ks → RLk K F ρ (kvs ++ [(k, x)]) (ks ++ [(kyS k, v)])
  | [], ks, h => by simp only [RLk] at h; subst h; simp only [List.nil_append, RLk]; exact ⟨v, [], rfl, hk, rx, rfl⟩
  | (j, p) :: r, ks, h => by
    simp only [RLk] at h
    obtain ⟨w, s, e1, e2, e3, e4⟩ := h
    subst e1
    simp only [List.cons_append, RLk]
    exact ⟨w, _, rfl, e2, e3, snoc_k hk rx e4⟩
theorem snoc_t {k : List Ky} {x : LV} {v : V} (hk : k.all okK = true) (rx : RL K F ρ x v) : ∀ {kvs : List (List Ky × LV)} {ks : List (List Key × V)}, RLt K F ρ kvs ks → RLt K F ρ (kvs ++ [(k, x)]) (ks ++ [(k.map kyS, v)])
  | [], ks, h => by simp only [RLt] at h; subst h; simp only [List.nil_append, RLt]; exact ⟨v, [], rfl, hk, rx, rfl⟩
  | (j, p) :: r, ks, h => by
    simp only [RLt] at h
    obtain ⟨w, s, e1, e2, e3, e4⟩ := h
    subst e1
    simp only [List.cons_append, RLt]
    exact ⟨w, _, rfl, e2, e3, snoc_t hk rx e4⟩
theorem put_k {k : Ky} {x : LV} {v : V} {kvs : List (Ky × LV)} {ks : List (Key × V)} (hk : okK k = true) (rx : RL K F ρ x v) (h : RLk K F ρ kvs ks) : RLk K F ρ (putD k x kvs) (putK ks (kyS k) v) := by
  unfold putD putK
  rw [any_k h]
  split
  · exact map_k rx h
  · exact snoc_k hk rx h
theorem put_t {k : List Ky} {x : LV} {v : V} {kvs : List (List Ky × LV)} {ks : List (List Key × V)} (hk : k.all okK = true) (rx : RL K F ρ x v) (h : RLt K F ρ kvs ks) : RLt K F ρ (putD k x kvs) (putK ks (k.map kyS) v) := by
  unfold putD putK
  rw [any_t h]
  split
  · exact map_t rx h
  · exact snoc_t hk rx h
theorem len_k : ∀ {kvs : List (Ky × LV)} {ks : List (Key × V)}, RLk K F ρ kvs ks → kvs.length = ks.length
  | [], ks, h => by simp only [RLk] at h; subst h; rfl
  | (j, p) :: r, ks, h => by
    simp only [RLk] at h
    obtain ⟨w, s, e1, e2, e3, e4⟩ := h
    subst e1
    simp [len_k e4]
theorem len_t : ∀ {kvs : List (List Ky × LV)} {ks : List (List Key × V)}, RLt K F ρ kvs ks → kvs.length = ks.length
  | [], ks, h => by simp only [RLt] at h; subst h; rfl
  | (j, p) :: r, ks, h => by
    simp only [RLt] at h
    obtain ⟨w, s, e1, e2, e3, e4⟩ := h
    subst e1
    simp [len_t e4]
end
theorem rd_setI {F H : Hp} {ρ : List Addr} {st st' : Store} {x y z : LV} {v w u : V} {Q : Hp → Prop} (hh : HR' M X.K F ρ H st) (rx : RL X.K F ρ x v) (ry : RL X.K F ρ y w) (rz : RL X.K F ρ z u) (e : setI x y z st = some st')
    (q : ∀ H', G F ρ H F ρ H' → HR' M X.K F ρ H' st' → Q H') : rSetZ v w u H Q := by
  cases x with
  | pv _ => simp [setI] at e
  | tup _ => simp [setI] at e
  | ref n =>
    simp only [setI] at e
    simp only [RL] at rx
    obtain ⟨a, ea, en⟩ := rx
    obtain ⟨c, ec, hc⟩ := hh.at en
    split at e
    · rename_i xs i e1
      rw [e1] at ec
      cases ec
      split at e
      · rename_i j hj
        simp only [Option.some.injEq] at e
        subst e
        obtain ⟨vs, h1, h2, h3, _⟩ := hc
        simp only [RL, RP] at ry
        refine .inl ⟨a, vs, i, j, ea, ry, h1, by rw [← h2.length]; exact hj, ?_⟩
        obtain ⟨g2, hh2⟩ := hh.write en (h3 rfl) (o := .lst (vs.set j u)) (c := .lst true (xs.set j z)) ⟨_, upd_same, h2.set rz j, fun _ => h3 rfl, fun z => Bool.noConfusion z⟩
        exact q _ g2 hh2
      · cases e
    · rename_i kvs k e1
      rw [e1] at ec
      cases ec
      split at e
      · rename_i ky hk
        split at e
        · rename_i hl
          simp only [Option.some.injEq] at e
          subst e
          obtain ⟨ks, h1, h2, h3, _⟩ := hc
          have pk := peek_ok hh ry (p := k) (by simp only [peek])
          obtain ⟨k1, k2⟩ := kV_of hk pk
          refine .inr ⟨a, _, ea, by rw [k1]; exact DPut.k h1 (by rw [← len_k h2, line_eq]; exact hl), ?_⟩
          obtain ⟨g2, hh2⟩ := hh.write en (h3 rfl) (o := .dK (putK ks (kyS ky) u)) (c := .dk true (putD ky z kvs)) ⟨_, upd_same, put_k k2 rz h2, fun _ => h3 rfl, fun z => Bool.noConfusion z⟩
          exact q _ g2 hh2
        · cases e
      · cases e
    · rename_i kvs k e1
      rw [e1] at ec
      cases ec
      split at e
      · rename_i ky hk
        split at e
        · rename_i hl
          simp only [Option.some.injEq] at e
          subst e
          obtain ⟨ks, h1, h2, h3, _⟩ := hc
          have pk := peek_ok hh ry (p := k) (by simp only [peek])
          obtain ⟨b, k1, k2⟩ := kT_of hh.sub hk pk
          have k3 := kT_ok hk pk
          refine .inr ⟨a, _, ea, by rw [k1]; exact DPut.t h1 k2 (by rw [← len_t h2, line_eq]; exact hl), ?_⟩
          obtain ⟨g2, hh2⟩ := hh.write en (h3 rfl) (o := .dT (putK ks (ky.map kyS) u)) (c := .dt true (putD ky z kvs)) ⟨_, upd_same, put_t k3 rz h2, fun _ => h3 rfl, fun z => Bool.noConfusion z⟩
          exact q _ g2 hh2
        · cases e
      · cases e
    · cases e
end
end Z
end

section
/-! ZR: the theorem for statements. -/
namespace Z
open PySem PySem.Spec PyProof.Rows L2
section
variable {X : Cx} {g : SC} {M : Nm} {S : Sem} {W : WX} {k : Nat}
theorem swC_ok {g : SC} {v : Expr} {x : Str} {p : Pos} {env : Env} {l : Nat} (hs : env.scope = g.sc) : swapsWith v (some (.Name x p)) l env = pure (swC g v x p) := by
  have hb : env.blockKind = bkd g := by unfold Env.blockKind bkd; rw [hs]
  have hk : ∀ x, env.kindOf x = g.sc.names.lookup x := fun x => by unfold Env.kindOf; rw [hs]
  unfold swapsWith swC
  cases v <;> simp only [pure_bind, hb, hk] <;> rfl
theorem sole {t v : Expr} {l : Nat} {env : Env} : swapsWithSole [t] v l env = swapsWith v (some t) l env := by
  unfold swapsWithSole; rfl
theorem sw_sub {v o i : Expr} {p : Pos} {env : Env} {l : Nat} : swapsWith v (some (.Subscript o i p)) l env = pure false := by
  unfold swapsWith
  cases v <;> rfl
theorem sw_tup {v : Expr} {ts : List Expr} {k : Nat} {p : Pos} {env : Env} {l : Nat} : swapsWith v (some (.Tuple ts k p)) l env = pure false := by
  unfold swapsWith
  cases v <;> rfl
theorem st_name {v : Expr} {x : Str} {p : Pos} {env : Env} : swappedStores [.Name x p] v env = pure none := by
  unfold swappedStores; rfl
theorem st_sub {v o i : Expr} {p : Pos} {env : Env} : swappedStores [.Subscript o i p] v env = pure none := by
  unfold swappedStores; rfl
theorem asg_sub {o i : Expr} {pos : Pos} {env : Env} (h : isSlice i = false) : ∀ v, assign (.Subscript o i pos) env v = (do
      let ov ← holding [v] (eval o env)
      let iv ← holding [v, ov] (eval i env)
      standAt pos
      holding [v, ov, iv] (setItem ov iv v)
      release [v, ov, iv] []) := by
  intro v
  cases i <;> first | rfl | simp [isSlice] at h
theorem aug_sub {i : Expr} (h : isSlice i = false) : ∀ ov iv new, augStore i ov iv new = (do holding [new, ov, iv] (setItem ov iv new); release [new, ov, iv] []; pure .next) := by
  intro ov iv new
  cases i <;> first | rfl | simp [isSlice] at h
theorem asg_mkTup {gs : List MG} {vs : List LV} {φ : Slots} : asgG (.tp gs) (mkTup vs) φ = asgGs gs vs φ := by
  unfold mkTup
  split
  · rename_i ps h
    rw [unpv_eq h]
    simp only [asgG]
  · simp only [asgG]
theorem rd_par {i j : Nat} {ta : TA} {a b : ME} (h : RdA M X.K W ta (evEs S [a, b])) : RdS M X.K W (tPar i j ta) (exS S (.asg (.tp [.nm i, .nm j]) (.tup [a, b]))) := by
  intro D σ H φ F ρ st r hh hs e p
  simp only [exS, evE] at e
  unfold tPar
  cases q : evEs S [a, b] φ st with
  | none => rw [q] at e; cases e
  | some rs =>
    rw [q] at e
    cases rs with
    | ex x st1 =>
      simp only [Rs.bind, R.bf, Option.some.injEq] at e
      subst e
      exact h σ H _ φ F ρ st _ hh hs q fun F1 ρ1 H1 cls d g1 h1 x1 => p F1 ρ1 H1 σ cls d g1 h1 (hs.g g1) x1
    | ok vs st1 =>
      refine h σ H _ φ F ρ st _ hh hs q fun F1 ρ1 H1 us g1 h1 r1 => ?_
      have l := evEs_len q
      match vs, l, us, r1, e with
      | [x, y], _, us, r1, e =>
        simp only [RLs] at r1
        obtain ⟨v, r', e1, rx, w, r'', e2, ry, e3⟩ := r1
        subst e1 e2 e3
        refine ⟨v, w, rfl, ?_⟩
        simp only [Rs.bind] at e
        rw [if_pos (show ([x, y] : List LV).length ≤ line from (show 2 ≤ line by decide))] at e
        simp only [R.bf] at e
        rw [asg_mkTup] at e
        simp only [asgGs, asgG, Option.map_some, Option.some.injEq] at e
        subst e
        exact p F1 ρ1 H1 _ g1 h1 (((hs.g g1).set i rx).set j ry)
theorem rd_par3 {i j l : Nat} {ta : TA} {a b c : ME} (h : RdA M X.K W ta (evEs S [a, b, c])) : RdS M X.K W (tPar3 i j l ta) (exS S (.asg (.tp [.nm i, .nm j, .nm l]) (.tup [a, b, c]))) := by
  intro D σ H φ F ρ st r hh hs e p
  simp only [exS, evE] at e
  unfold tPar3
  cases q : evEs S [a, b, c] φ st with
  | none => rw [q] at e; cases e
  | some rs =>
    rw [q] at e
    cases rs with
    | ex x st1 =>
      simp only [Rs.bind, R.bf, Option.some.injEq] at e
      subst e
      exact h σ H _ φ F ρ st _ hh hs q fun F1 ρ1 H1 cls d g1 h1 x1 => p F1 ρ1 H1 σ cls d g1 h1 (hs.g g1) x1
    | ok vs st1 =>
      refine h σ H _ φ F ρ st _ hh hs q fun F1 ρ1 H1 us g1 h1 r1 => ?_
      have l := evEs_len q
      match vs, l, us, r1, e with
      | [x, y, z], _, us, r1, e =>
        simp only [RLs] at r1
        obtain ⟨v, r', e1, rx, w, r'', e2, ry, u, r3, e3, rz, e4⟩ := r1
        subst e1 e2 e3 e4
        refine ⟨v, w, u, rfl, ?_⟩
        simp only [Rs.bind] at e
        rw [if_pos (show ([x, y, z] : List LV).length ≤ line from (show 3 ≤ line by decide))] at e
        simp only [R.bf] at e
        rw [asg_mkTup] at e
        simp only [asgGs, asgG, Option.map_some, Option.some.injEq] at e
        subst e
        exact p F1 ρ1 H1 _ g1 h1 ((((hs.g g1).set i rx).set j ry).set _ rz)
/-- name = [..] within -/
theorem snd_comp (C : Cok X g M S W k) {live : Bool} {elt : ME} {tg : MG} {ik : IK} {src : List ME} {ifs : List MT} {own : List Nat} {elx : Expr} {gs : List Comprehension} {scope : Scope} {pos : Pos}
    (h : chkE g (.lc live elt tg ik src ifs own) (.ListComp elx gs scope pos) = true) {i : Nat} {y : Str} {py spos : Pos} (hi : g.N[i]? = some y) (hy : g.sc.names.lookup y = some .local)
    (hsw : swC g (.ListComp elx gs scope pos) y py = true) : SS X M S W (.asg (.nm i) (.lc live elt tg ik src ifs own)) (.Assign [.Name y py] (.ListComp elx gs scope pos) spos) := by
  unfold chkE at h
  simp only at h
  split at h
  · rename_i t it is ow hc ho
    split at h
    · rename_i xs hsrc
      simp only [Bool.and_eq_true] at h
      obtain ⟨⟨⟨⟨⟨h1, hown⟩, h2⟩, h3⟩, h4⟩, h5⟩ := h
      have B := blkOk_by h1
      have hgs : gs = [⟨t, it, is, 0⟩] := by
        unfold comps at hc
        split at hc
        · split at hc
          · rename_i ha
            simp only [Option.some.injEq, Prod.mk.injEq] at hc
            obtain ⟨e1, e2, e3⟩ := hc
            subst e1 e2 e3 ha; rfl
          · cases hc
        · cases hc
      subst hgs
      have how : ∀ (own : List Nat) (ow : List (Str × Nat)), ownOf g.N own = some ow → ow.map (·.2) = own := by
        intro own
        induction own with
        | nil => intro ow e; simp only [ownOf, Option.some.injEq] at e; subst e; rfl
        | cons i r ih =>
          intro ow e
          unfold ownOf at e
          split at e
          · simp only [Option.map_eq_some_iff] at e
            obtain ⟨ow', e1, e2⟩ := e
            subst e2
            simp [ih ow' e1]
          · cases e
      have hown2 := how own ow ho
      obtain ⟨wi, i1, i2, i3⟩ := iter_ok C hsrc (snds src g X W _ C h3) (tg := t)
      have B' : BlkOk X.N X.env.scope scope ow := by rw [C.N, C.sc]; exact B
      have sub : ∀ i ∈ slotsG tg, i ∈ own := fun i hi => by
        have := List.all_eq_true.mp hown i hi
        simpa using this
      obtain ⟨tg', hg1, hg2⟩ := all_PG (Xs := fun b : Blk => b.cx X scope) (K := X.K) (M := M) fun b => tgt (C.blk scope b.s b.H b.A b.cl b.fp) tg t h2
      obtain ⟨te, he1, he2⟩ := all_PE (Xs := fun b : Blk => b.cx X scope) (K := X.K) (W := W0) (M := M) fun b => snd elt (g.blk scope) (b.cx X scope) W0 elx (C.blk scope b.s b.H b.A b.cl b.fp) h5
      have tests : ∃ tt, (∀ b : Blk, PTs (b.cx X scope) is tt) ∧ RdTurn M X.K tt te fun φ st => evIf S ifs φ st fun st => R.bs (evE S elt φ st) fun y st => some (.ok [y] st) := by
        match ifs, h4 with
        | [], h4 =>
          simp only [chkIfs, List.isEmpty_iff] at h4
          subst h4
          exact ⟨tYes, fun b => pts_nil, turn_nil he2⟩
        | c :: cs, h4 =>
          match cs, is, h4 with
          | [], [e'], h4 =>
            simp only [chkIfs] at h4
            obtain ⟨tt, t1, t2⟩ := all_PT (Xs := fun b : Blk => b.cx X scope) (K := X.K) (W := W0) (M := M) fun b => sndT c (g.blk scope) (b.cx X scope) W0 e' (C.blk scope b.s b.H b.A b.cl b.fp) h4
            exact ⟨tt, fun b => pts_one (t1 b), turn_one t2 he2⟩
          | [], [], h4 => simp [chkIfs] at h4
          | [], _ :: _ :: _, h4 => simp [chkIfs] at h4
          | _ :: _, _, h4 => simp [chkIfs] at h4
      obtain ⟨tt, t1, t2⟩ := tests
      refine ⟨_, ps_setLc C.calm C.nd (by rw [C.N]; exact hi) (by rw [C.sc]; exact hy) (by rw [swC_ok C.sc, hsw]) i1 B' (fun s H A cl fp => hg1 ⟨s, H, A, cl, fp⟩) (fun s H A cl fp => t1 ⟨s, H, A, cl, fp⟩) (fun s H A cl fp => he1 ⟨s, H, A, cl, fp⟩) (fun x => i3 X.env x), ?_⟩
      rw [hown2]
      refine fun D σ H φ F ρ st r hh hs e p => rd_asg (m := .nm i) (rd_lc i2 hg2 sub t2) ?_ D σ H φ F ρ st r hh hs (by simpa only [exS] using e) p
      intro x v φ φ' σ F ρ H st Q hh hs r e q
      simp only [asgG, Option.some.injEq] at e
      subst e
      exact q _ (hs.set i r) fun vs hv => wipe_set (hv i (by simp [slotsG]))
    · cases h
  · cases h
/-- an assignment by its plain way -/
theorem snd_asg (C : Cok X g M S W k) {m : MG} {e : ME} {t v : Expr} {pos : Pos} (h1 : chkG g m t = true) (h2 : chkE g e v = true) (hs : swapsWithSole [t] v pos.line X.env = pure false) (hw : swappedStores [t] v X.env = pure none) (h3 : (assignEach [t] X.env).map (·.2) = [assign t X.env]) :
    SS X M S W (.asg m e) (.Assign [t] v pos) := by
  obtain ⟨tg, g1, g2⟩ := tgt C m t h1
  obtain ⟨te, e1, e2⟩ := snd e g X W v C h2
  exact ⟨_, ps_asg e1 g1 hs hw h3, fun D σ H φ F ρ st r hh hs e p => rd_asg e2 g2 D σ H φ F ρ st r hh hs (by simpa only [exS] using e) p⟩
theorem loc1_ok (C : Cok X g M S W k) {x : Str} (h : loc1 g x = true) : X.env.scope.names.lookup x = some .local := by
  rw [C.sc]
  exact of_decide_eq_true h
theorem nm_at {i : Nat} {x : Str} {p : Pos} (h : chkG g (.nm i) (.Name x p) = true) : g.N[i]? = some x := by
  simp only [chkG, Bool.and_eq_true, decide_eq_true_eq] at h
  exact h.1
theorem snd_way (C : Cok X g M S W k) {m : MG} {e : ME} {t v : Expr} {pos : Pos} (h1 : chkG g m t = true) (h2 : chkE g e v = true) (h : wayOk g m e t v = true) : SS X M S W (.asg m e) (.Assign [t] v pos) := by
  cases t with
  | Name x p =>
    simp only [wayOk, wayOf] at h
    by_cases hsw : swC g v x p = true
    · rw [if_pos hsw] at h
      simp only at h
      unfold isLc at h
      split at h
      · rename_i live elt tg ik src ifs own elx gs scope lpos
        cases m with
        | tp _ => simp [chkG] at h1
        | nm i =>
          refine snd_comp C h2 (nm_at h1) ?_ hsw
          simp only [swC, Bool.and_eq_true, beq_iff_eq] at hsw
          exact hsw.1.1.2
      · cases h
    · exact snd_asg C h1 h2 (by rw [sole, swC_ok C.sc]; simp [hsw]) st_name rfl
  | Tuple ts kk p =>
    have a1 : (assignEach [.Tuple ts kk p] X.env).map (·.2) = [assign (.Tuple ts kk p) X.env] := rfl
    cases v with
    | Tuple vs k' p' =>
      simp only [wayOk, wayOf] at h
      cases hsw : swp g ts vs with
      | none => simp [hsw] at h
      | some r =>
        have hw := swp_ok (p := p) (p' := p') (k := kk) (k' := k') C.sc hsw
        cases r with
        | none => exact snd_asg C h1 h2 (sole.trans sw_tup) hw a1
        | some ns =>
          simp only [hsw] at h
          unfold parOk at h
          split at h
          · rename_i i j ma mb x px y py kt pt a b k2 pt2 heq1 heq2
            simp only [Expr.Tuple.injEq] at heq1 heq2
            obtain ⟨e1, e2, e3⟩ := heq1
            obtain ⟨e4, e5, e6⟩ := heq2
            subst e1 e2 e3 e4 e5 e6
            simp only [Bool.and_eq_true, decide_eq_true_eq] at h
            obtain ⟨⟨⟨hij, hx⟩, hy⟩, hn⟩ := h
            subst hn
            simp only [chkG, chkGs, Bool.and_eq_true, decide_eq_true_eq] at h1
            simp only [chkE] at h2
            obtain ⟨ta, p1, p2⟩ := (snds _ g X W _ C h2).pa
            exact ⟨_, ps_par C.calm C.nd (by rw [C.N]; exact h1.1.1.1) (by rw [C.N]; exact h1.2.1.1.1) hij (loc1_ok C hx) (loc1_ok C hy) p1 hw (sole.trans sw_tup), rd_par p2⟩
          · rename_i i j l ma mb mc x px y py z pz kt pt a b c k2 pt2 heq1 heq2
            simp only [Expr.Tuple.injEq] at heq1 heq2
            obtain ⟨e1, e2, e3⟩ := heq1
            obtain ⟨e4, e5, e6⟩ := heq2
            subst e1 e2 e3 e4 e5 e6
            simp only [Bool.and_eq_true, decide_eq_true_eq] at h
            obtain ⟨⟨⟨⟨⟨⟨hij, hil⟩, hjl⟩, hx⟩, hy⟩, hz⟩, hn⟩ := h
            subst hn
            simp only [chkG, chkGs, Bool.and_eq_true, decide_eq_true_eq] at h1
            simp only [chkE] at h2
            obtain ⟨ta, p1, p2⟩ := (snds _ g X W _ C h2).pa
            exact ⟨_, ps_par3 C.calm C.nd (by rw [C.N]; exact h1.1.1.1) (by rw [C.N]; exact h1.2.1.1.1) (by rw [C.N]; exact h1.2.2.1.1.1) hij hil hjl (loc1_ok C hx) (loc1_ok C hy) (loc1_ok C hz) p1 hw (sole.trans sw_tup), rd_par3 p2⟩
          · cases h
    | _ => exact snd_asg C h1 h2 (sole.trans sw_tup) (by unfold swappedStores; rfl) a1
  | _ => cases m <;> simp [chkG] at h1
theorem get_Z (hu : room2 X) : PGet X (rIxZ X.K) := by
  intro pins s σ H x y v u Q I rx ry h
  rcases h with h | h | h | h
  · obtain ⟨p, xs, i, z, rfl, rfl, hq, he, q⟩ := h
    cases rx
    obtain ⟨t, rfl⟩ := ry
    obtain ⟨its, r, pl, hz⟩ := I.list hq
    obtain ⟨j, h1, h2, h3, h4, h5⟩ := atI_get he
    obtain ⟨w, ew, rw'⟩ := r.get h2
    have hl := r.length
    have hn := line63
    have fin : EP X pins σ Q w s := ⟨z, H, I, rw', q⟩
    by_cases h0 : 0 ≤ i
    · have hj : i.toNat = j := by
        rw [seqIndex_of h0 h5] at h1
        exact Option.some.inj h1
      exact wpAny_getItem_list pl.isList h0 (by omega) (by rw [hj]; simpa using ew) fin
    · have hj : (i + (its.toArray.size : Int)).toNat = j := by
        rw [seqIndex_neg (by omega) h4] at h1
        rw [List.size_toArray, ← hl]
        exact Option.some.inj h1
      exact wpAny_getItem_list_neg pl.isList (by omega) (by rw [List.size_toArray] <;> omega) (by omega) (by rw [hj]; simpa using ew) fin
  · obtain ⟨p, xs, i, z, rfl, rfl, hq, he, q⟩ := h
    cases rx
    obtain ⟨t, rfl⟩ := ry
    obtain ⟨its, r, pl, hz⟩ := I.tuple hq
    obtain ⟨j, h1, h2, h3, h4, h5⟩ := atI_get he
    obtain ⟨w, ew, rw'⟩ := r.get h2
    have hl := r.length
    have hn := line63
    exact getItem_tuple (j := j) pl (by omega) (by omega) (by rw [List.size_toArray, ← hl]; exact h1) (by simpa using ew) ⟨z, H, I, rw', q⟩
  · obtain ⟨z, i, c, rfl, rfl, hz, he, q⟩ := h
    obtain ⟨t, rfl⟩ := rx
    obtain ⟨t', rfl⟩ := ry
    obtain ⟨j, h1, h2, h3, h4, h5⟩ := atI_get he
    have hl : z.cps.toList.length = z.length := by simp [Str.length]
    rw [hl] at h1 h4 h5
    have hn := line63
    exact getItem_str (c := c) (by
      have e1 : decide (i < -(2 ^ 63 : Int)) = false := decide_eq_false (by omega)
      have e2 : decide (i ≥ 2 ^ 63) = false := decide_eq_false (by omega)
      rw [e1, e2, Bool.or_false]) (by rw [h1]; simpa using h2) ⟨.str ⟨#[c]⟩, H, I.tok _, ⟨_, rfl⟩, q⟩
  · obtain ⟨a, z, e, g, q⟩ := h
    subst e
    obtain rfl : v = Value.ref a := rx
    exact d_getItem (by have h1 : X.A.units + 2100 < cLine := hu; omega) I g ry fun w' s' I' r' => ⟨z, H, I', r', q⟩
theorem chk_pass {s : Stmt} (h : chkS g .pass s = true) : PS X s tNext := by
  unfold chkS at h
  split at h
  · exact ps_pass
  · exact ps_doc
  · cases h
theorem noSwapE {x : Expr} {l : Nat} {env : Env} (h : isComp x = false) : swapsWith x none l env = pure false := noSwap h
mutual
theorem sndS : ∀ (m : MS) (g : SC) (X : Cx) (W : WX) (s : Stmt), Cok X g M S W k → chkS g m s = true → SS X M S W m s
  | .pass, g, X, W, s, C, h => ⟨tNext, chk_pass h, fun D σ H φ F ρ st r hh hs e p => by
    simp only [exS, Option.some.injEq] at e
    subst e
    exact p F ρ H σ (G.refl _ _ _) hh hs⟩
  | .ex e, g, X, W, s, C, h => by
    unfold chkS at h
    split at h
    · simp only [Bool.and_eq_true, Bool.not_eq_true'] at h
      obtain ⟨te, e1, e2⟩ := snd e g X W _ C h.2
      exact ⟨_, ps_expr e1 (noSwapE h.1), fun D σ H φ F ρ st r hh hs e p => rd_drop e2 D σ H φ F ρ st r hh hs (by simpa only [exS] using e) p⟩
    · cases h
  | .asg m e, g, X, W, s, C, h => by
    unfold chkS at h
    split at h
    · simp only [Bool.and_eq_true] at h
      exact snd_way C h.1.1 h.1.2 h.2
    · cases h
  | .asgI a i e, g, X, W, s, C, h => by
    unfold chkS at h
    split at h
    · simp only [Bool.and_eq_true, Bool.not_eq_true'] at h
      obtain ⟨⟨⟨h1, h2⟩, h3⟩, h4⟩ := h
      obtain ⟨ta, a1, a2⟩ := snd a g X W _ C h2
      obtain ⟨ti, i1, i2⟩ := snd i g X W _ C h3
      obtain ⟨te, e1, e2⟩ := snd e g X W _ C h4
      refine ⟨_, ps_asg e1 (pg_sub a1 i1 (set_Z C.un) (asg_sub h1)) (sole.trans sw_sub) st_sub rfl, ?_⟩
      intro D σ H φ F ρ st r hh hs e p
      simp only [exS] at e
      refine e2.bindS (U := fun x H1 => gSub ta ti rSetZ x σ H1 D.nx) hh hs e p fun v st1 F1 ρ1 H1 u e1 g1 h1 r1 p1 => ?_
      refine a2.bindS (U := fun o H2 => ti σ H2 fun i H3 => rSetZ o i u H3 fun H4 => D.nx σ H4) h1 (hs.g g1) e1 p1 fun x st2 F2 ρ2 H2 o e2 g2 h2 r2 p2 => ?_
      refine i2.bindS (U := fun i H3 => rSetZ o i u H3 fun H4 => D.nx σ H4) h2 (hs.g (g1.trans g2)) e2 p2 fun y st3 F3 ρ3 H3 w e3 g3 h3 r3 p3 => ?_
      simp only [Option.map_eq_some_iff] at e3
      obtain ⟨st4, e4, e5⟩ := e3
      subst e5
      exact rd_setI h3 (RL.mono g3.sub g3.pre _ _ r2) r3 (RL.mono (g2.trans g3).sub (g2.trans g3).pre _ _ r1) e4 fun H4 g4 h4 => p3 F3 ρ3 H4 σ g4 h4 ((hs.g (g1.trans g2)).g (g3.trans g4))
    · cases h
  | .aug i op e, g, X, W, s, C, h => by
    unfold chkS at h
    split at h
    · simp only [Bool.and_eq_true, decide_eq_true_eq] at h
      obtain ⟨⟨⟨h1, h2⟩, h3⟩, h4⟩ := h
      subst h1
      obtain ⟨hl, hf⟩ := C.loc h3
      obtain ⟨te, e1, e2⟩ := snd e g X W _ C h4
      exact ⟨_, ps_aug C.nd (by rw [C.N]; exact h2) hl e1 (op_augZ op) hf, fun D σ H φ F ρ st r hh hs e p => rd_augS e2 D σ H φ F ρ st r hh hs (by simp only [exS] at e; exact e) p⟩
    · cases h
  | .augI a i op e, g, X, W, s, C, h => by
    unfold chkS at h
    split at h
    · simp only [Bool.and_eq_true, decide_eq_true_eq, Bool.not_eq_true'] at h
      obtain ⟨⟨⟨⟨h0, h1⟩, h2⟩, h3⟩, h4⟩ := h
      subst h0
      obtain ⟨ta, a1, a2⟩ := snd a g X W _ C h2
      obtain ⟨ti, i1, i2⟩ := snd i g X W _ C h3
      obtain ⟨te, e1, e2⟩ := snd e g X W _ C h4
      refine ⟨_, ps_augS a1 i1 (get_Z C.un) e1 (op_augZ op) (set_Z C.un) (aug_sub h1), ?_⟩
      intro D σ H φ F ρ st r hh hs e p
      simp only [exS] at e
      refine a2.bindS (U := fun o H1 => ti σ H1 fun i H2 => rIxZ X.K o i H2 fun x H3 => te σ H3 fun y H4 => rAugZ op x y H4 fun z H5 => rSetZ o i z H5 fun H6 => D.nx σ H6) hh hs e p fun x st1 F1 ρ1 H1 o e1 g1 h1 r1 p1 => ?_
      refine i2.bindS (U := fun i H2 => rIxZ X.K o i H2 fun x H3 => te σ H3 fun y H4 => rAugZ op x y H4 fun z H5 => rSetZ o i z H5 fun H6 => D.nx σ H6) h1 (hs.g g1) e1 p1 fun y st2 F2 ρ2 H2 w e2' g2 h2 r2 p2 => ?_
      cases q : getI x y st2 with
      | none => rw [q] at e2'; cases e2'
      | some a3 =>
        rw [q] at e2'
        refine rd_getI σ H2 _ F2 ρ2 st2 x y o w a3 h2 (RL.mono g2.sub g2.pre _ _ r1) r2 q (W := W) ?_
        cases a3 with
        | ex z st3 =>
          cases e2'
          exact fun F3 ρ3 H3 cls d g3 h3 x3 => p2 F3 ρ3 H3 σ cls d g3 h3 (hs.g ((g1.trans g2).trans g3)) x3
        | ok vv st3 =>
          intro F3 ρ3 H3 u g3 h3 r3
          refine e2.bindS (U := fun y H4 => rAugZ op u y H4 fun z H5 => rSetZ o w z H5 fun H6 => D.nx σ H6) h3 (hs.g ((g1.trans g2).trans g3)) e2' (p2.g g3) fun ww st4 F4 ρ4 H4 u4 e4 g4 h4 r4 p4 => ?_
          cases q4 : augOp op vv ww st4 with
          | none => rw [q4] at e4; cases e4
          | some a5 =>
            rw [q4] at e4
            refine rd_augOp op σ H4 _ F4 ρ4 st4 vv ww u u4 a5 h4 (RL.mono g4.sub g4.pre _ _ r3) r4 q4 (W := W) ?_
            cases a5 with
            | ex z st5 =>
              cases e4
              exact fun F5 ρ5 H5 cls d g5 h5 x5 => p4 F5 ρ5 H5 σ cls d g5 h5 (hs.g ((((g1.trans g2).trans g3).trans g4).trans g5)) x5
            | ok z st5 =>
              intro F5 ρ5 H5 u5 g5 h5 r5
              simp only [R.bf, Option.map_eq_some_iff] at e4
              obtain ⟨st6, e6, e7⟩ := e4
              subst e7
              have ga := (g2.trans g3).trans (g4.trans g5)
              have gb := g3.trans (g4.trans g5)
              exact rd_setI h5 (RL.mono ga.sub ga.pre _ _ r1) (RL.mono gb.sub gb.pre _ _ r2) r5 e6 fun H6 g6 h6 => p4 F5 ρ5 H6 σ (g5.trans g6) h6 (hs.g ((g1.trans ga).trans g6))
    · cases h
  | .iff c a b, g, X, W, s, C, h => by
    unfold chkS at h
    split at h
    · simp only [Bool.and_eq_true] at h
      obtain ⟨tc, c1, c2⟩ := sndT c g X W _ C h.1.1
      obtain ⟨ta, a1, a2⟩ := sndSs a g X W _ C h.1.2
      obtain ⟨tb, b1, b2⟩ := sndSs b g X W _ C h.2
      exact ⟨_, ps_if c1 a1 b1, fun D σ H φ F ρ st r hh hs e p => rd_if c2 a2 b2 D σ H φ F ρ st r hh hs (by simpa only [exS] using e) p⟩
    · cases h
  | .whl c a, g, X, W, s, C, h => by
    unfold chkS at h
    split at h
    · simp only [Bool.and_eq_true] at h
      obtain ⟨tc, c1, c2⟩ := sndT c g X W _ C h.1
      obtain ⟨ta, a1, a2⟩ := sndSs a g X W _ C h.2
      exact ⟨_, ps_while C.pass c1 a1, fun D σ H φ F ρ st r hh hs e p => rd_while c2 a2 D σ H φ F ρ st r hh hs (by simpa only [exS] using e) p⟩
    · cases h
  | .for_ tg ik src a, g, X, W, s, C, h => by
    unfold chkS at h
    split at h
    · rename_i t it a' pos
      split at h
      · rename_i xs hsrc
        simp only [Bool.and_eq_true] at h
        obtain ⟨tg', g1, g2⟩ := tgt C tg t h.1.1
        obtain ⟨wi, i1, i2, i3⟩ := iter_ok C hsrc (snds src g X W _ C h.1.2) (tg := t)
        obtain ⟨ta, a1, a2⟩ := sndSs a g X W _ C h.2
        exact ⟨_, ps_for C.pass C.calm i1 g1 a1 (fun x => i3 X.env x), rd_for i2 g2 a2⟩
      · cases h
    · cases h
  | .ret e, g, X, W, s, C, h => by
    unfold chkS at h
    split at h
    · obtain ⟨te, e1, e2⟩ := snd e g X W _ C h
      exact ⟨_, ps_ret e1, fun D σ H φ F ρ st r hh hs e p => rd_ret e2 D σ H φ F ρ st r hh hs (by simpa only [exS] using e) p⟩
    · cases h
  | .retN, g, X, W, s, C, h => by
    unfold chkS at h
    split at h
    · refine ⟨_, ps_retN, fun D σ H φ F ρ st r hh hs e p => ?_⟩
      simp only [exS, Option.some.injEq] at e
      subst e
      exact p F ρ H .non (G.refl _ _ _) hh (by simp only [RL, RP])
    · cases h
  | .brk, g, X, W, s, C, h => by
    unfold chkS at h
    split at h
    · refine ⟨_, ps_break, fun D σ H φ F ρ st r hh hs e p => ?_⟩
      simp only [exS, Option.some.injEq] at e
      subst e
      exact p F ρ H σ (G.refl _ _ _) hh hs
    · cases h
  | .cnt, g, X, W, s, C, h => by
    unfold chkS at h
    split at h
    · refine ⟨_, ps_continue, fun D σ H φ F ρ st r hh hs e p => ?_⟩
      simp only [exS, Option.some.injEq] at e
      subst e
      exact p F ρ H σ (G.refl _ _ _) hh hs
    · cases h
theorem sndSs : ∀ (ms : List MS) (g : SC) (X : Cx) (W : WX) (ss : List Stmt), Cok X g M S W k → chkSs g ms ss = true → SSs X M S W ms ss
  | [], g, X, W, ss, C, h => by
    simp only [chkSs, List.isEmpty_iff] at h
    subst h
    refine ⟨_, pss_nil, fun D σ H φ F ρ st r hh hs e p => ?_⟩
    simp only [exSs, Option.some.injEq] at e
    subst e
    exact p F ρ H σ (G.refl _ _ _) hh hs
  | m :: ms, g, X, W, [], C, h => by simp [chkSs] at h
  | m :: ms, g, X, W, s :: ss, C, h => by
    simp only [chkSs, Bool.and_eq_true] at h
    obtain ⟨t, h1, h2⟩ := sndS m g X W s C h.1
    obtain ⟨u, h3, h4⟩ := sndSs ms g X W ss C h.2
    exact ⟨_, pss_cons h1 h3, fun D σ H φ F ρ st r hh hs e p => rd_seq h2 h4 D σ H φ F ρ st r hh hs (by simp only [exSs] at e; exact e) p⟩
end
end
end Z
end

section
/-! ZS: defs. -/
namespace Z
open PySem PySem.Spec PyProof.Rows L2
/-! ### binding -/
theorem zip_lookup {α : Type} {x : Str} : ∀ {ps : List Str} {us : List α}, ps.length = us.length → x ∈ ps → ∃ u, (ps.zip us).lookup x = some u
  | [], [], _, h => absurd h (by simp)
  | p :: ps, u :: us, hl, h => by
    by_cases e : x = p
    · subst e; exact ⟨u, by simp [List.lookup]⟩
    · have hm : x ∈ ps := by
        rcases List.mem_cons.mp h with z | z
        · exact absurd z e
        · exact z
      obtain ⟨w, hw⟩ := zip_lookup (ps := ps) (us := us) (by simpa using hl) hm
      refine ⟨w, ?_⟩
      have hb : (x == p) = false := by simpa using e
      simp only [List.zip_cons_cons, List.lookup, hb]
      exact hw
theorem zip_same {α : Type} : ∀ {ps : List Str} {us : List α} {pre : List (Str × α)}, ps.length = us.length → ps.Nodup → (∀ p ∈ ps, pre.lookup p = none) → (ps.filterMap fun n => ((pre ++ ps.zip us).lookup n).map (n, ·)) = ps.zip us
  | [], [], _, _, _, _ => rfl
  | p :: ps, u :: us, pre, hl, hn, hp => by
    have h1 : ((pre ++ (p :: ps).zip (u :: us)).lookup p) = some u := by
      rw [List.lookup_append, hp p List.mem_cons_self]
      simp [List.lookup]
    rw [List.filterMap_cons, h1]
    simp only [Option.map_some, List.zip_cons_cons, List.cons.injEq, true_and]
    have hn' := List.nodup_cons.mp hn
    have ih := zip_same (ps := ps) (us := us) (pre := pre ++ [(p, u)]) (by simpa using hl) hn'.2 fun q hq => by
      rw [List.lookup_append, hp q (List.mem_cons_of_mem _ hq)]
      have e : (q == p) = false := by
        simp only [beq_eq_false_iff_ne]
        intro z
        subst z
        exact hn'.1 hq
      simp [List.lookup, e]
    rw [List.append_assoc, List.singleton_append] at ih
    exact ih
theorem bind_plain {x qual : Str} {as : List Arg} {kd : List (Option Expr)} {body : List Stmt} {scope : Scope} {kV doc pm cdv ct : Value} {an : Option Addr} {us : List Value} (hl : us.length = (as.map (·.arg)).length) (hn : (as.map (·.arg)).Nodup) :
    bindArgs (PySem.W.fnOf x qual ⟨[], as, none, [], kd, none, []⟩ body scope .none kV doc pm an cdv ct) ⟨us, []⟩ = pure ((as.map (·.arg)).zip us) := by
  have h1 : ((as.map (·.arg)).filter fun n => (((as.map (·.arg)).zip us).lookup n).isNone) = [] := by
    apply List.filter_eq_nil_iff.mpr
    intro p hp
    obtain ⟨u, hu⟩ := zip_lookup hl.symm hp
    simp [hu]
  have h2 := zip_same (us := us) (pre := []) hl.symm hn fun p _ => rfl
  rw [List.nil_append] at h2
  have h3 : seqItems? Value.none = pure none := rfl
  unfold bindArgs
  simp only [PySem.W.fnOf, List.map_nil, List.nil_append, List.forIn_nil, pure_bind, h3, Option.getD_none, Array.toList_empty, List.length_nil, Nat.zero_sub, List.drop_nil, Nat.sub_zero, Option.isNone_none, Bool.and_true, List.zip_nil_right, List.isEmpty_nil, Bool.not_true, Bool.false_eq_true, if_false, List.append_nil, h2]
  rw [hl]
  simp only [Nat.lt_irrefl, gt_iff_lt, if_false, decide_false, Bool.false_eq_true, List.take_length, h1, List.isEmpty_nil, Bool.not_true, pure_bind]
/-! ### a program by its defs -/
structure DD where
  md : MD
  N : List Str
  d : He.DefD
def argsOf (p : Arguments) : Option (List Str) := match p with
  | ⟨[], as, none, [], _, none, []⟩ => some (as.map (·.arg))
  | _ => none
def chkDef (T : Tab) (q : DD) : Bool :=
  decide (argsOf q.d.params = some (q.N.take q.md.ar)) && decide (q.N.length = q.md.nn) && decide (q.md.ar ≤ q.md.nn) && decide q.N.Nodup && decide (q.d.scope.kind = .function) && !q.d.scope.isCoroutine && !q.d.scope.isGenerator &&
  (q.N.take q.md.ar).all (fun x => decide (q.d.scope.names.lookup x = some .local) || decide (q.d.scope.names.lookup x = some .cell)) && q.d.scope.names.all (fun y => decide (y.2 ≠ .free)) &&
  q.d.at_.2.isNone && q.d.dfl.isEmpty && q.d.kwd.isEmpty && chkSs ⟨q.N, q.d.scope, fun _ => true, T⟩ q.md.body q.d.body
structure Txt where
  defs : List DD
  consts : List (Str × PV)
def Txt.tab (t : Txt) : Tab := ⟨t.defs.map fun q => (q.d.at_.1, q.md.ar), t.consts.map (·.1)⟩
def Txt.prog (t : Txt) (shr : Nat → Bool) (wf : Nat) : Prog := ⟨t.defs.map (·.md), fun i => (t.consts[i]?).map (·.2), shr, wf⟩
def allBI : List BI := [.len, .abs, .int, .list, .sum, .all, .any]
theorem allBI_all (b : BI) : b ∈ allBI := by cases b <;> decide
def allTy : List Ty := [.int, .bool, .str, .list, .tuple]
theorem allTy_all (b : Ty) : b ∈ allTy := by cases b <;> decide
def frees : List Str := rangeN :: "isinstance" :: (allBI.map biName ++ allTy.map tyName)
def constFa : Str × PV → He.Fa
  | (x, .int i) => .int x i
  | (x, .str s) => .str x (mkS s)
  | (x, _) => .free x
def constOk : Str × PV → Bool
  | (_, .int _) => true
  | (_, .str s) => okS s
  | _ => false
def Txt.fa (t : Txt) : List He.Fa := t.defs.map (fun q => .glo q.d.at_.1) ++ (frees.map .free ++ t.consts.map constFa)
def Txt.fn (t : Txt) : List He.DefD := t.defs.map (·.d)
def Txt.ok (t : Txt) : Bool := t.defs.all (chkDef t.tab) && t.consts.all constOk
theorem fa_all {fa : List He.Fa} {fn : List He.DefD} {K : PySem.W.Frag} (c : He.SaysD fa fn K) {f : He.Fa} (h : f ∈ fa) : f.ok K = true := by
  obtain ⟨i, hi, e⟩ := List.mem_iff_getElem.mp h
  exact c.fact i (by rw [List.getElem?_eq_getElem hi, e])
theorem sl_start {K : PySem.W.Frag} {F : Hp} {ρ : List Addr} {args : List LV} {vs : List V} {N : List Str} (r : RLs K F ρ args vs) : SL K F ρ (start N vs) (args.map some ++ List.replicate (N.length - args.length) none) := by
  have hl := r.length
  refine ⟨by simp [L2.start, hl], fun i x hx => ?_⟩
  by_cases hi : i < args.length
  · rw [List.getElem?_append_left (by simpa using hi), List.getElem?_map, Option.map_eq_some_iff] at hx
    obtain ⟨y, e1, e2⟩ := hx
    cases e2
    obtain ⟨v, h1, h2⟩ := r.get e1
    refine ⟨v, ?_, h2⟩
    unfold L2.start
    rw [List.getElem?_append_left (by rw [List.length_map, ← hl]; exact hi), List.getElem?_map, h1]
    rfl
  · rw [List.getElem?_append_right (by simpa using hi), List.getElem?_replicate] at hx
    split at hx <;> cases hx
theorem dvs_nil {d : He.DefD} {K : PySem.W.Frag} (h : d.dfl.isEmpty = true) : d.dvs K = [] := by
  unfold He.DefD.dvs
  rw [List.isEmpty_iff.mp h]; rfl
theorem kws_nil {d : He.DefD} {K : PySem.W.Frag} (h : d.kwd.isEmpty = true) : d.kws K = [] := by
  unfold He.DefD.kws
  rw [List.isEmpty_iff.mp h]; rfl
theorem binds_of {T : Tab} {q : DD} (h : chkDef T q = true) {kV doc pm cdv ct : Value} {an : Option Addr} {us : List Value} (hl : us.length = (q.N.take q.md.ar).length) :
    bindArgs (PySem.W.fnOf q.d.name q.d.qual q.d.params q.d.body q.d.scope .none kV doc pm an cdv ct) ⟨us, []⟩ = pure ((q.N.take q.md.ar).zip us) := by
  simp only [chkDef, Bool.and_eq_true, decide_eq_true_eq] at h
  obtain ⟨⟨⟨⟨⟨⟨⟨⟨⟨⟨⟨⟨h1, h2⟩, h3⟩, h4⟩, h5⟩, h6⟩, h7⟩, h8⟩, h9⟩, h10⟩, h11⟩, h12⟩, h13⟩ := h
  unfold argsOf at h1
  split at h1
  · rename_i as kd hp
    simp only [Option.some.injEq] at h1
    rw [hp, ← h1]
    exact bind_plain (by rw [h1]; exact hl) (by rw [h1]; exact h4.sublist (List.take_sublist _ _))
  · cases h1
section
variable {P : Program} {w : World} {K : PySem.W.Frag} {mg : Str → Option Value} {base h : Heap} {t : Txt} {M : Nm} {shr : Nat → Bool} {wf : Nat}
theorem endR_post {F H : Hp} {ρ : List Addr} {Q : VK} {E : XK} {fr : FR} {r : ER} (e : endR (some fr) = some r) (p : PostE M K (fun cls d _ H => E cls d H) [] F ρ H Q r) :
    PostS M K (fun cls d _ H => E cls d H) F ρ H { nx := fun _ H' => Q .non H', rt := Q } fr := by
  cases fr with
  | nx φ st =>
    simp only [endR, Option.some.injEq] at e
    subst e
    exact fun F' ρ' H' σ' g h s => p F' ρ' H' .non g h (by simp only [RL, RP])
  | rt v st =>
    simp only [endR, Option.some.injEq] at e
    subst e
    exact p
  | bk φ st => simp [endR] at e
  | ct φ st => simp [endR] at e
  | ex x φ st =>
    simp only [endR, Option.some.injEq] at e
    subst e
    exact fun F' ρ' H' σ' cls d g h s x => p F' ρ' H' cls d g h x
theorem defs_ok (KX : K.In h) (G : h.Ns mainGlobals mg) (c : He.SaysD t.fa t.fn K) (ok : t.ok = true) : ∀ (n f : Nat) (q : DD), t.defs[f]? = some q →
    ∃ fd, FunD K q.d.name q.d.qual q.d.params q.d.body q.d.scope [] [] (He.ga K q.d.at_.1) fd ∧ FnOk P w K mg base (L2.CX P w) (n + 120) (He.ga K q.d.at_.1) fd (q.N.take q.md.ar) (spOf M K ((t.prog shr wf).cal n f) q.md.ar) ∧ mg q.d.at_.1 = some (.ref (He.ga K q.d.at_.1)) ∧
      PySem.W.keepIn K (.ref (He.ga K q.d.at_.1)) = true ∧ Binds K fd (q.N.take q.md.ar) [] := by
  have hok : ∀ q ∈ t.defs, chkDef t.tab q = true := by
    simp only [Txt.ok, Bool.and_eq_true, List.all_eq_true] at ok
    exact ok.1
  have hco : ∀ q ∈ t.consts, constOk q = true := by
    simp only [Txt.ok, Bool.and_eq_true, List.all_eq_true] at ok
    exact ok.2
  have free : ∀ x ∈ frees, mg x = none := fun x hx => He.free_ok KX G (fa_all c (by
    unfold Txt.fa
    exact List.mem_append_right _ (List.mem_append_left _ (List.mem_map.mpr ⟨x, hx, rfl⟩))))
  have one : ∀ (f : Nat) (q : DD), t.defs[f]? = some q → ∃ fd, FunD K q.d.name q.d.qual q.d.params q.d.body q.d.scope [] [] (He.ga K q.d.at_.1) fd := fun f q hq => by
    have hm := List.mem_of_getElem? hq
    have hc := hok q hm
    simp only [chkDef, Bool.and_eq_true, decide_eq_true_eq] at hc
    obtain ⟨⟨⟨⟨⟨⟨⟨⟨⟨⟨⟨⟨h1, h2⟩, h3⟩, h4⟩, h5⟩, h6⟩, h7⟩, h8⟩, h9⟩, h10⟩, h11⟩, h12⟩, h13⟩ := hc
    obtain ⟨fd, F⟩ := c.def_ f (d := q.d) (by unfold Txt.fn; rw [List.getElem?_map, hq]; rfl)
    rw [dvs_nil h11, kws_nil h12] at F
    have e : He.fAd K q.d.at_ = He.ga K q.d.at_.1 := by
      unfold He.fAd
      rw [Option.isNone_iff_eq_none.mp h10]
    rw [e] at F
    exact ⟨fd, F⟩
  have rest : ∀ (f : Nat) (q : DD) (fd : FuncData), t.defs[f]? = some q → FunD K q.d.name q.d.qual q.d.params q.d.body q.d.scope [] [] (He.ga K q.d.at_.1) fd → mg q.d.at_.1 = some (.ref (He.ga K q.d.at_.1)) ∧ PySem.W.keepIn K (.ref (He.ga K q.d.at_.1)) = true ∧ Binds K fd (q.N.take q.md.ar) [] := fun f q fd hq F => by
    have hm := List.mem_of_getElem? hq
    refine ⟨He.glo_ok KX G (fa_all c (by unfold Txt.fa; exact List.mem_append_left _ (List.mem_map.mpr ⟨q, hm, rfl⟩))), F.kp, ?_⟩
    exact F.bindsN fun kV doc pm an cdv ct us hl => binds_of (hok q hm) hl
  intro n
  induction n with
  | zero =>
    intro f q hq
    obtain ⟨fd, F⟩ := one f q hq
    have hc := hok q (List.mem_of_getElem? hq)
    simp only [chkDef, Bool.and_eq_true, decide_eq_true_eq] at hc
    obtain ⟨⟨⟨⟨⟨⟨⟨⟨⟨⟨⟨⟨h1, h2⟩, h3⟩, h4⟩, h5⟩, h6⟩, h7⟩, h8⟩, h9⟩, h10⟩, h11⟩, h12⟩, h13⟩ := hc
    have len : (q.N.take q.md.ar).length = q.md.ar := by rw [List.length_take, h2]; omega
    refine ⟨fd, F, ⟨fun vs H Q E hs => by rw [len]; exact hs.1, fun A outer s H args us vs Q E hr he hb hv hs => ?_⟩, rest f q fd hq F⟩
    obtain ⟨_, F0, ρ, st, as, r, _, _, e, _⟩ := hs
    simp [Prog.cal] at e
  | succ n ih =>
    intro f q hq
    obtain ⟨fd, F⟩ := one f q hq
    refine ⟨fd, F, ?_, rest f q fd hq F⟩
    have hc := hok q (List.mem_of_getElem? hq)
    simp only [chkDef, Bool.and_eq_true, decide_eq_true_eq] at hc
    obtain ⟨⟨⟨⟨⟨⟨⟨⟨⟨⟨⟨⟨h1, h2⟩, h3⟩, h4⟩, h5⟩, h6⟩, h7⟩, h8⟩, h9⟩, h10⟩, h11⟩, h12⟩, h13⟩ := hc
    have len : (q.N.take q.md.ar).length = q.md.ar := by rw [List.length_take, h2]; omega
    have S : FnScope q.N (q.N.take q.md.ar) q.d.scope := by
      refine ⟨h5, by simpa using h6, by simpa using h7, h4, by rw [len], fun x hx => ?_, fun y hy => ?_⟩
      · have := List.all_eq_true.mp h8 x hx
        simpa [Bool.or_eq_true] using this
      · have := List.all_eq_true.mp h9 y hy
        simpa using this
    refine F.ok S (fun vs H Q E hs => by rw [len]; exact hs.1) fun cdv A outer s H vs Q E hr hs => ?_
    obtain ⟨hl, F0, ρ, st, as, r, hh, ra, e, p⟩ := hs
    have C : Cok (cxOf (L2.CX P w) P w K mg base q.N q.d.qual q.d.scope (He.ga K q.d.at_.1) cdv A outer s H E) ⟨q.N, q.d.scope, fun _ => true, t.tab⟩ M ((t.prog shr wf).sem n) (fun cls d _ H => E cls d H) (n + 120) := {
      N := rfl
      sc := rfl
      fn := fun _ _ => rfl
      nd := h4
      calm := rfl
      hr := hr
      un := by have := hr.un; show (A.deeper (envOfC q.d.qual q.d.scope s.heap.objs.size (He.ga K q.d.at_.1) cdv)).units + 2100 < cLine; omega
      bi := fun b => free _ (by unfold frees; exact List.mem_cons_of_mem _ (List.mem_cons_of_mem _ (List.mem_append_left _ (List.mem_map.mpr ⟨b, allBI_all b, rfl⟩))))
      bt := fun b => free _ (by unfold frees; exact List.mem_cons_of_mem _ (List.mem_cons_of_mem _ (List.mem_append_right _ (List.mem_map.mpr ⟨b, allTy_all b, rfl⟩))))
      br := free _ (by unfold frees; exact List.mem_cons_self)
      bis := free _ (by unfold frees; exact List.mem_cons_of_mem _ List.mem_cons_self)
      glb := fun i x z h1 h2 => by
        have h1' : (t.consts.map (·.1))[i]? = some x := h1
        have h2' : (t.consts[i]?).map (·.2) = some z := h2
        rw [List.getElem?_map, Option.map_eq_some_iff] at h1'
        obtain ⟨y, e1, e2⟩ := h1'
        rw [e1] at h2'
        simp only [Option.map_some, Option.some.injEq] at h2'
        obtain ⟨yx, yz⟩ := y
        simp only at e2 h2'
        subst e2 h2'
        have hk := hco _ (List.mem_of_getElem? e1)
        have hf : constFa (yx, yz) ∈ t.fa := by
          unfold Txt.fa
          exact List.mem_append_right _ (List.mem_append_right _ (List.mem_map.mpr ⟨_, List.mem_of_getElem? e1, rfl⟩))
        cases yz <;> simp only [constOk, Bool.false_eq_true] at hk
        · obtain ⟨tk, hm⟩ := He.int_ok KX G (fa_all c hf)
          exact ⟨_, .int _, hm, ⟨tk, rfl⟩, rfl, by simp only [RP]⟩
        · obtain ⟨tk, hm⟩ := He.str_ok KX G (fa_all c hf)
          exact ⟨_, .str _, hm, ⟨tk, rfl⟩, rfl, by simp only [RP, true_and]; exact hk⟩
      calls := fun f2 x m hx => by
        have hx' : (t.defs.map fun q => (q.d.at_.1, q.md.ar))[f2]? = some (x, m) := hx
        rw [List.getElem?_map, Option.map_eq_some_iff] at hx'
        obtain ⟨q2, e1, e2⟩ := hx'
        simp only [Prod.mk.injEq] at e2
        obtain ⟨e3, e4⟩ := e2
        obtain ⟨fd2, F2, ok2, hm2, hk2, hb2⟩ := ih f2 q2 e1
        subst e3 e4
        exact ⟨_, fd2, _, ok2, hm2, hk2, hb2⟩
      takes := takes_of rfl rfl rfl rfl
      pass := passes_of rfl }
    obtain ⟨ts, t1, t2⟩ := sndSs q.md.body _ _ _ q.d.body C h13
    refine ⟨ts, t1, ?_⟩
    have e' : (t.prog shr wf).defs[f]? = some q.md := by
      show (t.defs.map (·.md))[f]? = _
      rw [List.getElem?_map, hq]; rfl
    simp only [Prog.cal, e', MD.run] at e
    split at e
    · rename_i hla
      have hsl := sl_start (N := q.N) ra
      rw [h2, hla] at hsl
      cases q3 : exSs ((t.prog shr wf).sem n) q.md.body (as.map some ++ List.replicate (q.md.nn - q.md.ar) none) st with
      | none =>
        have q3' := q3
        unfold Prog.sem at q3'
        rw [q3'] at e; simp [endR] at e
      | some fr =>
        have q3' := q3
        unfold Prog.sem at q3'
        rw [q3'] at e
        exact t2 _ _ H _ F0 ρ st fr hh hsl q3 (endR_post e p)
    · cases e
end
end Z
end

section
/-! ZT: a law's end. -/
namespace Z
open PySem PySem.Spec PyProof.Rows L2
/-- a law whose defs the look accepts: its value is all that is left -/
theorem walkZ {l : PySem.W.OpenLaw} {n : Nat} {q : Program} {loose : List Str} {XP : (Str → Option Value) → Heap → Prop} {d : DefRec} (t : Txt) (shr : Nat → Bool) (wf depth steps f : Nat) (dd : DD) (x : Str)
    (hn : l.most = some n) (hn2 : n ≤ sizeLine) (hdf : d.params.defaults = []) (ok : t.ok = true) (hf : t.defs[f]? = some dd) (hname : dd.d.at_.1 = d.name) (hps : dd.N.take dd.md.ar = [x]) (har : dd.md.ar = 1) (hr : Room (depth + 120) callerA)
    (law : ∀ ns : List Int, ns.length ≤ n → ∃ st, (t.prog shr wf).cal depth f [.pv (.scr ns)] [] = some (.ok (.pv (.bl true)) st)) :
    PySem.W.WalkO q loose XP (He.hookD steps t.fa t.fn).says l.row.toRowW d [] (fun f vs => PySem.call f vs) := by
  refine Att.attach_call hn hdf fun w s₀ s₁ mg mb fa o pm cd doc a vs ns Gd Y ho hd hcd hmg hobj hints hlen hg => ?_
  obtain ⟨K, KX, c⟩ := Y
  have key := fun base => defs_ok (P := l.prog) (w := w) (base := base) (M := ⟨fun _ => 0, fun _ => 0, fun _ => Str.empty⟩) (shr := shr) (wf := wf) KX Gd.T.g c ok depth f dd hf
  obtain ⟨fd, F, _, hm, _, _⟩ := key s₁.heap
  have efa : fa = He.ga K dd.d.at_.1 := by
    rw [hname] at hm ⊢
    have := hmg.symm.trans hm
    cases this
    rfl
  have hfn : ∀ base : Heap, K.In base → base.Ns mainGlobals mg → FnOk l.prog w K mg base (L2.CX l.prog w) (depth + 120) fa fd [x] (spOf ⟨fun _ => 0, fun _ => 0, fun _ => Str.empty⟩ K ((t.prog shr wf).cal depth f) 1) := fun base _ _ => by
    obtain ⟨fd', F', k1, _, _, _⟩ := key base
    have e : fd' = fd := by
      obtain ⟨_, _, _, _, _, _, _, _, _, _, e1, l1, _⟩ := F.ex
      obtain ⟨_, _, _, _, _, _, _, _, _, _, e2, l2, _⟩ := F'.ex
      rw [l1] at l2
      cases l2
      rfl
    subst e
    rw [efa, ← hps, ← har]
    exact k1
  have hcm := List.mem_of_getElem? hf
  have hchk : chkDef t.tab dd = true := by
    simp only [Txt.ok, Bool.and_eq_true, List.all_eq_true] at ok
    exact ok.1 dd hcm
  refine law_call KX Gd.T.g Gd.T.b Gd.T.builtins Gd.T.nolimit hg hobj hints (Nat.le_trans hlen hn2) hr hfn (fun s u => ?_) (fun H hO hS => ?_) fun H e s' z => ?_
  · have b := FunD.bindsA (ps := [x]) F (fun kV doc pm an cdv ct us hl => by
      rw [← hps] at hl ⊢
      exact binds_of hchk hl) s [u] rfl
    exact b
  · obtain ⟨st, hst⟩ := law ns hlen
    refine ⟨rfl, H, [], [], [.pv (.scr ns)], _, ⟨Sub.refl H, rfl, List.nodup_nil, fun n a c e _ => by simp at e⟩, ?_, hst, ?_⟩
    · simp only [RLs, RL, RP]
      exact ⟨_, [], rfl, ⟨a, rfl, hS⟩, rfl⟩
    · intro F' ρ' H' v g h r
      simpa only [RL, RP] using r
  · obtain ⟨_, _, _, _, _, _, _, _, _, _, _, _, h⟩ := z
    exact h
end Z
end

section
/-! ZU: the laws' own draws. -/
namespace Z
def drawMD : MD := ⟨2, 5, [.iff (.boolop true [.cmp .eq (.idx (.var 0) (.lit (.int 2))) (.lit (.int 0)), .cmp .lt (.idx (.var 0) (.lit (.int 1))) (.bi .len [.idx (.var 0) (.lit (.int 0))])]) [.asg (.nm 3) (.bi .abs [.bi .int [.idx (.idx (.var 0) (.lit (.int 0))) (.idx (.var 0) (.lit (.int 1)))]]), .augI (.var 0) (.lit (.int 1)) .add (.lit (.int 1)), .iff (.cmp .ge (.var 3) (.bin .pow (.lit (.int 10)) (.lit (.int 18)))) [.asgI (.var 0) (.lit (.int 2)) (.var 3)] [.asgI (.var 0) (.lit (.int 3)) (.bin .mod (.bi .int [.bin .add (.bin .add (.bin .mul (.idx (.var 0) (.lit (.int 3))) (.lit (.int 48271))) (.bin .mul (.var 3) (.lit (.int 69621)))) (.idx (.var 0) (.lit (.int 1)))]) (.lit (.int 2147483647)))]] [], .iff (.cmp .gt (.idx (.var 0) (.lit (.int 2))) (.lit (.int 0))) [.asg (.nm 4) (.bin .mod (.bi .int [.idx (.var 0) (.lit (.int 2))]) (.var 1)), .asgI (.var 0) (.lit (.int 2)) (.bin .fdiv (.idx (.var 0) (.lit (.int 2))) (.var 1)), .ret (.var 4)] [], .asgI (.var 0) (.lit (.int 3)) (.bin .mod (.bi .int [.bin .add (.bin .mul (.idx (.var 0) (.lit (.int 3))) (.lit (.int 16807))) (.lit (.int 12345))]) (.lit (.int 2147483647))), .asg (.nm 2) (.bin .mod (.bi .int [.bin .add (.bin .mul (.idx (.var 0) (.lit (.int 3))) (.idx (.var 0) (.lit (.int 3)))) (.idx (.var 0) (.lit (.int 3)))]) (.lit (.int 2147483629))), .ret (.bin .mod (.bin .fdiv (.var 2) (.lit (.int 11))) (.var 1))]⟩
def feedC (ns : List Int) (i b s : Int) : Cell := .lst true [.pv (.lst (ns.map .int)), .pv (.int i), .pv (.int b), .pv (.int s)]
structure FeedOk (i₀ b₀ s₀ : Int) : Prop where
  i : 0 ≤ i₀
  b : 0 ≤ b₀
  s : 0 ≤ s₀
  t : s₀ < 2147483647
section
variable {S : Sem} {ns : List Int} {i b s : Int} {r : Nat} {st : Store} {φ : Slots}
theorem gd0 (h : st[r]? = some (feedC ns i b s)) : getI (.ref r) (.pv (.int 0)) st = some (.ok (.pv (.lst (ns.map .int))) st) := by
  simp only [getI, h, feedC]; simp [atI, ixN]
theorem gd1 (h : st[r]? = some (feedC ns i b s)) : getI (.ref r) (.pv (.int 1)) st = some (.ok (.pv (.int i)) st) := by
  simp only [getI, h, feedC]; simp [atI, ixN]
theorem gd2 (h : st[r]? = some (feedC ns i b s)) : getI (.ref r) (.pv (.int 2)) st = some (.ok (.pv (.int b)) st) := by
  simp only [getI, h, feedC]; simp [atI, ixN]
theorem gd3 (h : st[r]? = some (feedC ns i b s)) : getI (.ref r) (.pv (.int 3)) st = some (.ok (.pv (.int s)) st) := by
  simp only [getI, h, feedC]; simp [atI, ixN]
theorem fs1 {v : Int} (h : st[r]? = some (feedC ns i b s)) : setI (.ref r) (.pv (.int 1)) (.pv (.int v)) st = some (st.set r (feedC ns v b s)) := by
  simp [setI, h, feedC, ixN]
theorem fs2 {v : Int} (h : st[r]? = some (feedC ns i b s)) : setI (.ref r) (.pv (.int 2)) (.pv (.int v)) st = some (st.set r (feedC ns i v s)) := by
  simp [setI, h, feedC, ixN]
theorem fs3 {v : Int} (h : st[r]? = some (feedC ns i b s)) : setI (.ref r) (.pv (.int 3)) (.pv (.int v)) st = some (st.set r (feedC ns i b v)) := by
  simp [setI, h, feedC, ixN]
theorem fset {c c' : Cell} (h : st[r]? = some c) : (st.set r c')[r]? = some c' := List.getElem?_set_self (List.getElem?_eq_some_iff.mp h).1
/-- the first branch: a number of the script is taken -/
theorem draw_take {m : Int} (h : st[r]? = some (feedC ns i b s)) (o : FeedOk i b s) : ∃ φ' i' b' s', FeedOk i' b' s' ∧ φ'[0]? = some (some (.ref r)) ∧ φ'[1]? = some (some (.pv (.int m))) ∧ φ'.length = 5 ∧
    exS S (drawMD.body.getD 0 .pass) [some (.ref r), some (.pv (.int m)), none, none, none] st = some (.nx φ' (st.set r (feedC ns i' b' s'))) := by
  obtain ⟨φ, hφ⟩ : ∃ φ : Slots, φ = [some (.ref r), some (.pv (.int m)), none, none, none] := ⟨_, rfl⟩
  have h0 : φ[0]? = some (some (.ref r)) := by rw [hφ]; rfl
  have same : st.set r (feedC ns i b s) = st := by
    apply List.ext_getElem?
    intro j
    by_cases hj : r = j
    · subst hj; rw [fset h, h]
    · rw [List.getElem?_set_ne hj]
  have test : evT S (.boolop true [.cmp .eq (.idx (.var 0) (.lit (.int 2))) (.lit (.int 0)), .cmp .lt (.idx (.var 0) (.lit (.int 1))) (.bi .len [.idx (.var 0) (.lit (.int 0))])]) φ st = some (.ok (decide (b = 0) && decide (i < ns.length)) st) := by
    simp only [evT, evBT, evE, evEs, h0, gd0 h, gd1 h, gd2 h, R.bind, R.bt, T.bt, R.bs, Rs.bs, Rs.bind, peeks, peek, Option.map_some, doBI, okP, cmpT, doCmp, opEq, eqOk, dep, eqP, List.length_map]
    by_cases hb : b = 0
    · subst hb; simp [maxDep, gd0 h, gd1 h, peeks, peek, doBI, okP, doCmp]
    · simp [maxDep, hb]
  have body : exS S (drawMD.body.getD 0 .pass) φ st = T.bf φ (evT S (.boolop true [.cmp .eq (.idx (.var 0) (.lit (.int 2))) (.lit (.int 0)), .cmp .lt (.idx (.var 0) (.lit (.int 1))) (.bi .len [.idx (.var 0) (.lit (.int 0))])]) φ st) fun d st => if d then exSs S [.asg (.nm 3) (.bi .abs [.bi .int [.idx (.idx (.var 0) (.lit (.int 0))) (.idx (.var 0) (.lit (.int 1)))]]), .augI (.var 0) (.lit (.int 1)) .add (.lit (.int 1)), .iff (.cmp .ge (.var 3) (.bin .pow (.lit (.int 10)) (.lit (.int 18)))) [.asgI (.var 0) (.lit (.int 2)) (.var 3)] [.asgI (.var 0) (.lit (.int 3)) (.bin .mod (.bi .int [.bin .add (.bin .add (.bin .mul (.idx (.var 0) (.lit (.int 3))) (.lit (.int 48271))) (.bin .mul (.var 3) (.lit (.int 69621)))) (.idx (.var 0) (.lit (.int 1)))]) (.lit (.int 2147483647)))]] φ st else exSs S [] φ st := rfl
  rw [← hφ, body, test]
  by_cases hd : b = 0 ∧ i < ns.length
  · obtain ⟨hb, hi⟩ := hd
    have e : (decide (b = 0) && decide (i < ns.length)) = true := by simp [hb, hi]
    rw [e]
    have hin : i.toNat < ns.length := by have := o.i; omega
    obtain ⟨z, hz⟩ : ∃ z, ns[i.toNat]? = some z := ⟨_, List.getElem?_eq_getElem hin⟩
    have hat : atI (ns.map PV.int) i = some (.int z) := by
      unfold atI ixN
      rw [if_pos o.i, if_pos (by rw [List.length_map]; exact hi)]
      simp [hz]
    obtain ⟨c, hc⟩ : ∃ c : Int, c = if z < 0 then -z else z := ⟨_, rfl⟩
    have hc0 : 0 ≤ c := by rw [hc]; split <;> omega
    have e1 : exS S (.asg (.nm 3) (.bi .abs [.bi .int [.idx (.idx (.var 0) (.lit (.int 0))) (.idx (.var 0) (.lit (.int 1)))]])) φ st = some (.nx (φ.set 3 (some (.pv (.int c)))) st) := by
      have gl : getI (.pv (.lst (ns.map .int))) (.pv (.int i)) st = some (.ok (.pv (.int z)) st) := by simp only [getI, doIdx, hat, okP]
      simp only [exS, evE, evEs, h0, gd0 h, gd1 h, gl, R.bind, R.bs, Rs.bs, Rs.bind, R.bf, okP, peeks, peek, Option.map_some, doBI, asgG, ← hc]
    have h0' : (φ.set 3 (some (.pv (.int c))))[0]? = some (some (.ref r)) := by rw [hφ]; rfl
    have h3' : (φ.set 3 (some (.pv (.int c))))[3]? = some (some (.pv (.int c))) := by rw [hφ]; rfl
    have e3 : exS S (.augI (.var 0) (.lit (.int 1)) .add (.lit (.int 1))) (φ.set 3 (some (.pv (.int c)))) st = some (.nx (φ.set 3 (some (.pv (.int c)))) (st.set r (feedC ns (i + 1) b s))) := by
      have hg := gd1 h
      simp only [exS, evE, h0', R.bf, hg, augOp, peek, doAug, doBin, okP, fs1 h, Option.map_some]
    have hst1 : (st.set r (feedC ns (i + 1) b s))[r]? = some (feedC ns (i + 1) b s) := fset h
    have e4 : evT S (.cmp .ge (.var 3) (.bin .pow (.lit (.int 10)) (.lit (.int 18)))) (φ.set 3 (some (.pv (.int c)))) (st.set r (feedC ns (i + 1) b s)) = some (.ok (decide (10 ^ 18 ≤ c)) (st.set r (feedC ns (i + 1) b s))) := by
      simp only [evT, evE, h3', R.bt, R.bind, bin, peek, doBin, powOk, okP, cmpT, doCmp, Option.map_some]
      simp
    have seq : ∀ s1 ss φ st φ1 st1, exS S s1 φ st = some (.nx φ1 st1) → exSs S (s1 :: ss) φ st = exSs S ss φ1 st1 := fun s1 ss φ st φ1 st1 e => by simp only [exSs, e]
    simp only [T.bf, if_true]
    rw [seq _ _ _ _ _ _ e1, seq _ _ _ _ _ _ e3]
    by_cases hge : (10 : Int) ^ 18 ≤ c
    · refine ⟨φ.set 3 (some (.pv (.int c))), i + 1, c, s, ⟨by have := o.i; omega, hc0, o.s, o.t⟩, h0', by rw [hφ]; rfl, by rw [hφ]; rfl, ?_⟩
      simp only [exSs, exS, e4, T.bf, decide_eq_true hge, if_true]
      simp only [evE, h3', h0', R.bf, fs2 hst1, Option.map_some, List.set_set]
    · refine ⟨φ.set 3 (some (.pv (.int c))), i + 1, b, (s * 48271 + c * 69621 + (i + 1)) % 2147483647, ⟨by have := o.i; omega, o.b, Int.emod_nonneg _ (by decide), Int.emod_lt_of_pos _ (by decide)⟩, h0', by rw [hφ]; rfl, by rw [hφ]; rfl, ?_⟩
      have m1 : mulOk s 48271 = true := by simp [mulOk]
      have m2 : mulOk c 69621 = true := by simp [mulOk]
      simp only [exSs, exS, e4, T.bf, decide_eq_false hge, Bool.false_eq_true, if_false]
      have ev : evE S (.bin .mod (.bi .int [.bin .add (.bin .add (.bin .mul (.idx (.var 0) (.lit (.int 3))) (.lit (.int 48271))) (.bin .mul (.var 3) (.lit (.int 69621)))) (.idx (.var 0) (.lit (.int 1)))]) (.lit (.int 2147483647))) (φ.set 3 (some (.pv (.int c)))) (st.set r (feedC ns (i + 1) b s)) = some (.ok (.pv (.int ((s * 48271 + c * 69621 + (i + 1)) % 2147483647))) (st.set r (feedC ns (i + 1) b s))) := by
        have g1 := gd1 hst1
        have g3 := gd3 hst1
        simp only [evE, evEs, h0', h3', R.bind, R.bs, Rs.bs, Rs.bind, g1, g3, bin, peek, peeks, doBin, m1, m2, if_true, okP, Option.map_some, doBI]
        simp
      rw [ev]
      simp only [R.bf, evE, h0', fs3 hst1, Option.map_some, List.set_set]
  · have e : (decide (b = 0) && decide (i < ns.length)) = false := by
      simp only [Bool.and_eq_false_iff, decide_eq_false_iff_not]
      by_cases hb : b = 0
      · exact .inr fun z => hd ⟨hb, z⟩
      · exact .inl hb
    rw [e]
    refine ⟨φ, i, b, s, o, h0, by rw [hφ]; rfl, by rw [hφ]; rfl, ?_⟩
    simp only [T.bf, Bool.false_eq_true, if_false, exSs, same]
theorem draw_ok {m : Int} (h : st[r]? = some (feedC ns i b s)) (o : FeedOk i b s) (hm : 0 < m) (hm2 : m < 1073741824) : ∃ v i' b' s', FeedOk i' b' s' ∧ 0 ≤ v ∧ v < m ∧
    drawMD.run S [.ref r, .pv (.int m)] st = some (.ok (.pv (.int v)) (st.set r (feedC ns i' b' s'))) := by
  obtain ⟨φ, i1, b1, s1, o1, h0, h1, hl, e1⟩ := draw_take (S := S) (m := m) h o
  have hst : (st.set r (feedC ns i1 b1 s1))[r]? = some (feedC ns i1 b1 s1) := fset h
  have seq : ∀ s1 ss φ st φ1 st1, exS S s1 φ st = some (.nx φ1 st1) → exSs S (s1 :: ss) φ st = exSs S ss φ1 st1 := fun s1 ss φ st φ1 st1 e => by simp only [exSs, e]
  have run : drawMD.run S [.ref r, .pv (.int m)] st = endR (exSs S drawMD.body [some (.ref r), some (.pv (.int m)), none, none, none] st) := rfl
  have body : drawMD.body = drawMD.body.getD 0 .pass :: drawMD.body.tail := rfl
  rw [run, body, seq _ _ _ _ _ _ e1]
  obtain ⟨st1, hst1⟩ : ∃ st1, st1 = st.set r (feedC ns i1 b1 s1) := ⟨_, rfl⟩
  rw [← hst1] at hst ⊢
  have g2 := gd2 hst
  have g3 := gd3 hst
  have t1 : evT S (.cmp .gt (.idx (.var 0) (.lit (.int 2))) (.lit (.int 0))) φ st1 = some (.ok (decide (0 < b1)) st1) := by
    simp only [evT, evE, h0, R.bt, R.bind, g2, cmpT, peek, doCmp, Option.map_some]
  have dv : divOk m = true := by simp [divOk, hm, hm2]
  by_cases hb : 0 < b1
  · refine ⟨b1 % m, i1, b1 / m, s1, ⟨o1.i, Int.ediv_nonneg o1.b (by omega), o1.s, o1.t⟩, Int.emod_nonneg _ (by omega), Int.emod_lt_of_pos _ hm, ?_⟩
    have p0 : (φ.set 4 (some (.pv (.int (b1 % m)))))[0]? = some (some (.ref r)) := by rw [List.getElem?_set_ne (by decide)]; exact h0
    have p1 : (φ.set 4 (some (.pv (.int (b1 % m)))))[1]? = some (some (.pv (.int m))) := by rw [List.getElem?_set_ne (by decide)]; exact h1
    have p4 : (φ.set 4 (some (.pv (.int (b1 % m)))))[4]? = some (some (.pv (.int (b1 % m)))) := List.getElem?_set_self (by omega)
    show endR (exSs S (.iff (.cmp .gt (.idx (.var 0) (.lit (.int 2))) (.lit (.int 0))) [.asg (.nm 4) (.bin .mod (.bi .int [.idx (.var 0) (.lit (.int 2))]) (.var 1)), .asgI (.var 0) (.lit (.int 2)) (.bin .fdiv (.idx (.var 0) (.lit (.int 2))) (.var 1)), .ret (.var 4)] [] :: _) φ st1) = _
    simp only [exSs, exS, t1, T.bf, decide_eq_true hb, if_true]
    simp only [evE, evEs, h0, h1, g2, R.bind, R.bs, Rs.bs, Rs.bind, R.bf, peeks, peek, Option.map_some, doBI, okP, bin, doBin, hm, if_true, asgG]
    simp only [p0, p1, p4, g2, dv, if_true, okP, fs2 hst, Option.map_some, R.bf, endR]
    rw [hst1, List.set_set]
  · obtain ⟨s2, hs2⟩ : ∃ s2, s2 = (s1 * 16807 + 12345) % 2147483647 := ⟨_, rfl⟩
    have o2 : FeedOk i1 b1 s2 := ⟨o1.i, o1.b, by rw [hs2]; exact Int.emod_nonneg _ (by decide), by rw [hs2]; exact Int.emod_lt_of_pos _ (by decide)⟩
    refine ⟨(s2 * s2 + s2) % 2147483629 / 11 % m, i1, b1, s2, o2, Int.emod_nonneg _ (by omega), Int.emod_lt_of_pos _ hm, ?_⟩
    have m1 : mulOk s1 16807 = true := by simp [mulOk]
    have m2 : mulOk s2 s2 = true := by
      have h1 := o2.s
      have h2 := o2.t
      have a1 : decide (-(2 ^ 64 : Int) < s2) = true := decide_eq_true (by omega)
      have a2 : decide (s2 < (2 ^ 64 : Int)) = true := decide_eq_true (by omega)
      unfold mulOk
      rw [a1, a2]; rfl
    have hst2 : (st1.set r (feedC ns i1 b1 s2))[r]? = some (feedC ns i1 b1 s2) := fset hst
    have g3' := gd3 hst2
    have e2 : exS S (.asgI (.var 0) (.lit (.int 3)) (.bin .mod (.bi .int [.bin .add (.bin .mul (.idx (.var 0) (.lit (.int 3))) (.lit (.int 16807))) (.lit (.int 12345))]) (.lit (.int 2147483647)))) φ st1 = some (.nx φ (st1.set r (feedC ns i1 b1 s2))) := by
      have ev : evE S (.bin .mod (.bi .int [.bin .add (.bin .mul (.idx (.var 0) (.lit (.int 3))) (.lit (.int 16807))) (.lit (.int 12345))]) (.lit (.int 2147483647))) φ st1 = some (.ok (.pv (.int s2)) st1) := by
        simp only [evE, evEs, h0, g3, R.bind, R.bs, Rs.bs, Rs.bind, bin, peek, peeks, doBin, m1, if_true, okP, Option.map_some, doBI]
        rw [hs2]; simp
      simp only [exS, ev, R.bf]
      simp only [evE, h0, R.bf, fs3 hst, Option.map_some]
    have e3 : exS S (.asg (.nm 2) (.bin .mod (.bi .int [.bin .add (.bin .mul (.idx (.var 0) (.lit (.int 3))) (.idx (.var 0) (.lit (.int 3)))) (.idx (.var 0) (.lit (.int 3)))]) (.lit (.int 2147483629)))) φ (st1.set r (feedC ns i1 b1 s2)) = some (.nx (φ.set 2 (some (.pv (.int ((s2 * s2 + s2) % 2147483629))))) (st1.set r (feedC ns i1 b1 s2))) := by
      simp only [exS, evE, evEs, h0, g3', R.bind, R.bs, Rs.bs, Rs.bind, R.bf, bin, peek, peeks, doBin, m2, if_true, okP, Option.map_some, doBI, asgG]
      simp
    have p1 : (φ.set 2 (some (.pv (.int ((s2 * s2 + s2) % 2147483629)))))[1]? = some (some (.pv (.int m))) := by rw [List.getElem?_set_ne (by decide)]; exact h1
    have p2 : (φ.set 2 (some (.pv (.int ((s2 * s2 + s2) % 2147483629)))))[2]? = some (some (.pv (.int ((s2 * s2 + s2) % 2147483629)))) := List.getElem?_set_self (by omega)
    have dv11 : divOk 11 = true := by decide
    have e0 : exS S (.iff (.cmp .gt (.idx (.var 0) (.lit (.int 2))) (.lit (.int 0))) [.asg (.nm 4) (.bin .mod (.bi .int [.idx (.var 0) (.lit (.int 2))]) (.var 1)), .asgI (.var 0) (.lit (.int 2)) (.bin .fdiv (.idx (.var 0) (.lit (.int 2))) (.var 1)), .ret (.var 4)] []) φ st1 = some (.nx φ st1) := by
      simp only [exS, t1, T.bf, decide_eq_false hb, Bool.false_eq_true, if_false, exSs]
    show endR (exSs S (.iff _ _ _ :: .asgI _ _ _ :: .asg _ _ :: [.ret (.bin .mod (.bin .fdiv (.var 2) (.lit (.int 11))) (.var 1))]) φ st1) = _
    rw [seq _ _ _ _ _ _ e0, seq _ _ _ _ _ _ e2, seq _ _ _ _ _ _ e3]
    simp only [exSs, exS, evE, p1, p2, R.bind, R.bf, bin, peek, doBin, dv11, hm, if_true, okP, endR]
    rw [hst1, List.set_set]
end
end Z
end

section
namespace Z83
open Z
abbrev pw : PySem.Program := PySem.Challenge.pw_oncelinks_k83_whole_counts_of_terms
def top (i : Nat) : PySem.Stmt := pw.main.body.getD i (.Pass ⟨0, 0, 0, 0⟩)
/-- ways_to_choose -/
def m0 : MD := ⟨2, 4, [.asg (.nm 2) (.lit (.int 1)), .for_ (.nm 3) .range [.var 1] [.asg (.nm 2) (.bin .fdiv (.bin .mul (.var 2) (.bin .sub (.var 0) (.var 3))) (.bin .add (.var 3) (.lit (.int 1))))], .ret (.var 2)]⟩
def q0 : DD := ⟨m0, ["many", "few", "ways", "k"], ⟨("ways_to_choose", none), "ways_to_choose", "ways_to_choose", L2.defArgs (top 1), L2.defBody (top 1), L2.defScope (top 1), [], []⟩⟩
/-- parted_counts -/
def m1 : MD := ⟨5, 9, [.asg (.nm 5) (.lit (.int 0)), .for_ (.nm 6) .range [.lit (.int 1), .var 2] [.for_ (.nm 7) .range [.bin .add (.var 3) (.lit (.int 1))] [.asg (.nm 8) (.ite (.val (.var 4)) (.lit (.int 1)) (.call 0 [.var 3, .var 7])), .aug 5 .add (.bin .mul (.bin .mul (.var 8) (.idx (.var 0) (.tup [.var 6, .var 7]))) (.idx (.var 1) (.tup [.bin .sub (.var 2) (.var 6), .bin .sub (.var 3) (.var 7)])))]], .ret (.var 5)]⟩
def q1 : DD := ⟨m1, ["first", "second", "n", "free", "is_plane", "total", "own", "few", "ways"], ⟨("parted_counts", none), "parted_counts", "parted_counts", L2.defArgs (top 2), L2.defBody (top 2), L2.defScope (top 2), [], []⟩⟩
/-- table_of -/
def m2 : MD := ⟨2, 6, [.asg (.nm 2) (.dnew true), .for_ (.nm 3) .range [.lit (.int 1), .bin .add (.var 0) (.lit (.int 1))] [.for_ (.nm 4) .range [.var 0, .var 3, .neg (.lit (.int 1))] [.asgI (.var 2) (.tup [.var 3, .var 4]) (.lit (.int 0))], .for_ (.nm 4) .range [.var 3, .neg (.lit (.int 1)), .neg (.lit (.int 1))] [.asg (.nm 5) (.bin .add (.bi .int [.boolop true [.cmp .eq (.var 3) (.lit (.int 1)), .cmp .eq (.var 4) (.lit (.int 1))]]) (.call 1 [.var 2, .var 2, .var 3, .var 4, .var 1])), .asgI (.var 2) (.tup [.var 3, .var 4]) (.bin .add (.var 5) (.ite (.cmp .lt (.var 4) (.var 0)) (.idx (.var 2) (.tup [.var 3, .bin .add (.var 4) (.lit (.int 1))])) (.lit (.int 0))))]], .ret (.frz (.var 2))]⟩
def q2 : DD := ⟨m2, ["n", "is_plane", "counts", "many", "free", "here"], ⟨("table_of", none), "table_of", "table_of", L2.defArgs (top 3), L2.defBody (top 3), L2.defScope (top 3), [], []⟩⟩
/-- count_terms -/
def m3 : MD := ⟨1, 1, [.ret (.idx (.call 2 [.var 0, .lit (.bl false)]) (.tup [.var 0, .lit (.int 0)]))]⟩
def q3 : DD := ⟨m3, ["n"], ⟨("count_terms", none), "count_terms", "count_terms", L2.defArgs (top 4), L2.defBody (top 4), L2.defScope (top 4), [], []⟩⟩
/-- count_plane -/
def m4 : MD := ⟨1, 1, [.ret (.idx (.call 2 [.var 0, .lit (.bl true)]) (.tup [.var 0, .lit (.int 0)]))]⟩
def q4 : DD := ⟨m4, ["n"], ⟨("count_plane", none), "count_plane", "count_plane", L2.defArgs (top 5), L2.defBody (top 5), L2.defScope (top 5), [], []⟩⟩
/-- count_ended -/
def m5 : MD := ⟨1, 6, [.asg (.nm 1) (.dnew true), .asg (.nm 2) (.dnew true), .for_ (.nm 3) .range [.lit (.int 1), .bin .add (.var 0) (.lit (.int 1))] [.for_ (.nm 4) .range [.var 0, .var 3, .neg (.lit (.int 1))] [.asgI (.var 1) (.tup [.var 3, .var 4]) (.lit (.int 0)), .asgI (.var 2) (.tup [.var 3, .var 4]) (.lit (.int 0))], .for_ (.nm 4) .range [.var 3, .neg (.lit (.int 1)), .neg (.lit (.int 1))] [.asg (.nm 5) (.bin .add (.bi .int [.boolop true [.cmp .eq (.var 3) (.lit (.int 1)), .cmp .eq (.var 4) (.lit (.int 1))]]) (.call 1 [.var 1, .var 2, .var 3, .var 4, .lit (.bl false)])), .asgI (.var 1) (.tup [.var 3, .var 4]) (.var 5), .asgI (.var 2) (.tup [.var 3, .var 4]) (.bin .add (.var 5) (.ite (.cmp .lt (.var 4) (.var 0)) (.idx (.var 2) (.tup [.var 3, .bin .add (.var 4) (.lit (.int 1))])) (.lit (.int 0))))]], .ret (.idx (.var 2) (.tup [.var 0, .lit (.int 0)]))]⟩
def q5 : DD := ⟨m5, ["n", "used", "whole", "many", "free", "here"], ⟨("count_ended", none), "count_ended", "count_ended", L2.defArgs (top 6), L2.defBody (top 6), L2.defScope (top 6), [], []⟩⟩
/-- _law_feed -/
def m6 : MD := ⟨1, 1, [.ret (.lst true [.bi .list [.var 0], .lit (.int 0), .lit (.int 0), .lit (.int 1)])]⟩
def q6 : DD := ⟨m6, ["script"], ⟨("_law_feed", none), "_law_feed", "_law_feed", L2.defArgs (top 8), L2.defBody (top 8), L2.defScope (top 8), [], []⟩⟩
/-- _law_draw -/
def m7 : MD := ⟨2, 5, [.iff (.boolop true [.cmp .eq (.idx (.var 0) (.lit (.int 2))) (.lit (.int 0)), .cmp .lt (.idx (.var 0) (.lit (.int 1))) (.bi .len [.idx (.var 0) (.lit (.int 0))])]) [.asg (.nm 3) (.bi .abs [.bi .int [.idx (.idx (.var 0) (.lit (.int 0))) (.idx (.var 0) (.lit (.int 1)))]]), .augI (.var 0) (.lit (.int 1)) .add (.lit (.int 1)), .iff (.cmp .ge (.var 3) (.bin .pow (.lit (.int 10)) (.lit (.int 18)))) [.asgI (.var 0) (.lit (.int 2)) (.var 3)] [.asgI (.var 0) (.lit (.int 3)) (.bin .mod (.bi .int [.bin .add (.bin .add (.bin .mul (.idx (.var 0) (.lit (.int 3))) (.lit (.int 48271))) (.bin .mul (.var 3) (.lit (.int 69621)))) (.idx (.var 0) (.lit (.int 1)))]) (.lit (.int 2147483647)))]] [], .iff (.cmp .gt (.idx (.var 0) (.lit (.int 2))) (.lit (.int 0))) [.asg (.nm 4) (.bin .mod (.bi .int [.idx (.var 0) (.lit (.int 2))]) (.var 1)), .asgI (.var 0) (.lit (.int 2)) (.bin .fdiv (.idx (.var 0) (.lit (.int 2))) (.var 1)), .ret (.var 4)] [], .asgI (.var 0) (.lit (.int 3)) (.bin .mod (.bi .int [.bin .add (.bin .mul (.idx (.var 0) (.lit (.int 3))) (.lit (.int 16807))) (.lit (.int 12345))]) (.lit (.int 2147483647))), .asg (.nm 2) (.bin .mod (.bi .int [.bin .add (.bin .mul (.idx (.var 0) (.lit (.int 3))) (.idx (.var 0) (.lit (.int 3)))) (.idx (.var 0) (.lit (.int 3)))]) (.lit (.int 2147483629))), .ret (.bin .mod (.bin .fdiv (.var 2) (.lit (.int 11))) (.var 1))]⟩
def q7 : DD := ⟨m7, ["feed", "many", "mixed", "cell", "told"], ⟨("_law_draw", none), "_law_draw", "_law_draw", L2.defArgs (top 9), L2.defBody (top 9), L2.defScope (top 9), [], []⟩⟩
/-- _law_parted_names -/
def m8 : MD := ⟨1, 6, [.asg (.nm 1) (.lst false [.tup [.lst false [], .lst false []]]), .for_ (.nm 2) .val [.var 0] [.asg (.nm 3) (.lst false []), .for_ (.tp [.nm 4, .nm 5]) .val [.var 1] [.asg (.nm 3) (.bin .add (.var 3) (.lst false [.tup [.bin .add (.var 4) (.lst false [.var 2]), .var 5], .tup [.var 4, .bin .add (.var 5) (.lst false [.var 2])]]))], .asg (.nm 1) (.var 3)], .ret (.var 1)]⟩
def q8 : DD := ⟨m8, ["names", "found", "name", "longer", "one", "other"], ⟨("_law_parted_names", none), "_law_parted_names", "_law_parted_names", L2.defArgs (top 10), L2.defBody (top 10), L2.defScope (top 10), [], []⟩⟩
/-- _law_terms -/
def m9 : MD := ⟨3, 12, [.asg (.nm 3) (.lst true []), .iff (.boolop true [.cmp .eq (.var 0) (.lit (.int 1)), .cmp .eq (.bi .len [.var 1]) (.lit (.int 1))]) [.ex (.bm .append (.var 3) [.tup [.lit (.str [118, 97, 114]), .idx (.var 1) (.lit (.int 0))]])] [], .iff (.cmp .lt (.bi .len [.var 1]) (.var 0)) [.asg (.nm 5) (.idx (.lit (.str [97, 98, 99, 100, 101, 102, 103, 104])) (.var 2)), .asg (.nm 3) (.bin .add (.var 3) (.lc false (.tup [.lit (.str [102, 117, 110]), .var 5, .var 10]) (.nm 10) .val [.call 9 [.var 0, .bin .add (.var 1) (.lst false [.var 5]), .bin .add (.var 2) (.lit (.int 1))]] [] [10]))] [], .for_ (.nm 4) .range [.lit (.int 1), .var 0] [.for_ (.tp [.nm 6, .nm 7]) .val [.call 8 [.var 1]] [.asg (.nm 8) (.call 9 [.bin .sub (.var 0) (.var 4), .var 7, .bin .sub (.bin .add (.var 2) (.var 4)) (.bi .len [.var 6])]), .for_ (.nm 9) .val [.call 9 [.var 4, .var 6, .var 2]] [.asg (.nm 3) (.bin .add (.var 3) (.lc false (.tup [.lit (.str [117, 115, 101]), .var 9, .var 11]) (.nm 11) .val [.var 8] [] [11]))]]], .ret (.frz (.var 3))]⟩
def q9 : DD := ⟨m9, ["n", "names", "funs", "found", "many", "own", "one", "other", "seconds", "first", "term", "second"], ⟨("_law_terms", none), "_law_terms", "_law_terms", L2.defArgs (top 11), L2.defBody (top 11), L2.defScope (top 11), [], []⟩⟩
/-- _law_is_ended -/
def m10 : MD := ⟨1, 1, [.iff (.cmp .eq (.idx (.var 0) (.lit (.int 0))) (.lit (.str [118, 97, 114]))) [.ret (.lit (.bl true))] [], .iff (.cmp .eq (.idx (.var 0) (.lit (.int 0))) (.lit (.str [102, 117, 110]))) [.ret (.call 10 [.idx (.var 0) (.lit (.int 2))])] [], .ret (.boolop true [.cmp .ne (.idx (.idx (.var 0) (.lit (.int 1))) (.lit (.int 0))) (.lit (.str [102, 117, 110])), .call 10 [.idx (.var 0) (.lit (.int 1))], .call 10 [.idx (.var 0) (.lit (.int 2))]])]⟩
def q10 : DD := ⟨m10, ["term"], ⟨("_law_is_ended", none), "_law_is_ended", "_law_is_ended", L2.defArgs (top 12), L2.defBody (top 12), L2.defScope (top 12), [], []⟩⟩
/-- _law_same -/
def m11 : MD := ⟨2, 3, [.iff (.boolop false [.val (.isi .list (.var 1)), .val (.isi .tuple (.var 1))]) [.iff (.boolop false [.cmp .ne (.isi .list (.var 0)) (.isi .list (.var 1)), .cmp .ne (.isi .tuple (.var 0)) (.isi .tuple (.var 1))]) [.ret (.lit (.bl false))] [], .ret (.boolop true [.cmp .eq (.bi .len [.var 0]) (.bi .len [.var 1]), .bi .all [.lc false (.call 11 [.idx (.var 0) (.var 2), .idx (.var 1) (.var 2)]) (.nm 2) .range [.bi .len [.var 1]] [] [2]]])] [], .iff (.boolop false [.isn false (.var 1), .val (.isi .bool (.var 1))]) [.ret (.ite (.isn false (.var 1)) (.isn false (.var 0)) (.boolop true [.isi .bool (.var 0), .cmp .eq (.var 0) (.var 1)]))] [], .iff (.val (.isi .str (.var 1))) [.ret (.boolop true [.isi .str (.var 0), .cmp .eq (.var 0) (.var 1)])] [], .ret (.boolop true [.isi .int (.var 0), .not (.isi .bool (.var 0)), .cmp .eq (.var 0) (.var 1)])]⟩
def q11 : DD := ⟨m11, ["actual", "due", "k"], ⟨("_law_same", none), "_law_same", "_law_same", L2.defArgs (top 13), L2.defBody (top 13), L2.defScope (top 13), [], []⟩⟩
/-- _law_choose -/
def m12 : MD := ⟨2, 5, [.asg (.nm 2) (.lst false [.lit (.int 1)]), .for_ (.nm 3) .range [.var 0] [.asg (.nm 2) (.bin .add (.bin .add (.lst false [.lit (.int 1)]) (.lc false (.bin .add (.idx (.var 2) (.var 4)) (.idx (.var 2) (.bin .add (.var 4) (.lit (.int 1))))) (.nm 4) .range [.bin .sub (.bi .len [.var 2]) (.lit (.int 1))] [] [4])) (.lst false [.lit (.int 1)]))], .ret (.idx (.var 2) (.var 1))]⟩
def q12 : DD := ⟨m12, ["many", "few", "row", "step", "k"], ⟨("_law_choose", none), "_law_choose", "_law_choose", L2.defArgs (top 14), L2.defBody (top 14), L2.defScope (top 14), [], []⟩⟩
/-- _law_uses -/
def m13 : MD := ⟨5, 9, [.asg (.nm 5) (.lit (.int 0)), .for_ (.nm 6) .range [.lit (.int 1), .var 2] [.for_ (.nm 7) .range [.bin .add (.var 3) (.lit (.int 1))] [.asg (.nm 8) (.idx (.lst false [.call 12 [.var 3, .var 7], .lit (.int 1)]) (.bi .int [.var 4])), .aug 5 .add (.bin .mul (.bin .mul (.var 8) (.bm .get2 (.var 0) [.tup [.var 6, .var 7], .lit (.int 0)])) (.bm .get2 (.var 1) [.tup [.bin .sub (.var 2) (.var 6), .bin .sub (.var 3) (.var 7)], .lit (.int 0)]))]], .ret (.var 5)]⟩
def q13 : DD := ⟨m13, ["first", "second", "n", "free", "plane", "total", "many", "few", "ways"], ⟨("_law_uses", none), "_law_uses", "_law_uses", L2.defArgs (top 15), L2.defBody (top 15), L2.defScope (top 15), [], []⟩⟩
/-- _law_counts -/
def m14 : MD := ⟨2, 6, [.asg (.nm 2) (.dnew true), .for_ (.nm 3) .range [.lit (.int 1), .bin .add (.var 0) (.lit (.int 1))] [.for_ (.nm 4) .range [.var 3, .neg (.lit (.int 1)), .neg (.lit (.int 1))] [.asg (.nm 5) (.bin .add (.bi .int [.boolop true [.cmp .eq (.var 3) (.lit (.int 1)), .cmp .eq (.var 4) (.lit (.int 1))]]) (.call 13 [.var 2, .var 2, .var 3, .var 4, .var 1])), .asgI (.var 2) (.tup [.var 3, .var 4]) (.bin .add (.var 5) (.bm .get2 (.var 2) [.tup [.var 3, .bin .add (.var 4) (.lit (.int 1))], .lit (.int 0)]))]], .ret (.lc false (.idx (.var 2) (.tup [.var 3, .lit (.int 0)])) (.nm 3) .range [.lit (.int 1), .bin .add (.var 0) (.lit (.int 1))] [] [3])]⟩
def q14 : DD := ⟨m14, ["most", "plane", "found", "n", "free", "here"], ⟨("_law_counts", none), "_law_counts", "_law_counts", L2.defArgs (top 16), L2.defBody (top 16), L2.defScope (top 16), [], []⟩⟩
/-- _law_ended_counts -/
def m15 : MD := ⟨1, 5, [.asg (.nm 1) (.dnew true), .asg (.nm 2) (.dnew true), .for_ (.nm 3) .range [.lit (.int 1), .bin .add (.var 0) (.lit (.int 1))] [.for_ (.nm 4) .range [.var 3, .neg (.lit (.int 1)), .neg (.lit (.int 1))] [.asgI (.var 1) (.tup [.var 3, .var 4]) (.bin .add (.bi .int [.boolop true [.cmp .eq (.var 3) (.lit (.int 1)), .cmp .eq (.var 4) (.lit (.int 1))]]) (.call 13 [.var 1, .var 2, .var 3, .var 4, .lit (.bl false)])), .asgI (.var 2) (.tup [.var 3, .var 4]) (.bin .add (.idx (.var 1) (.tup [.var 3, .var 4])) (.bm .get2 (.var 2) [.tup [.var 3, .bin .add (.var 4) (.lit (.int 1))], .lit (.int 0)]))]], .ret (.lc false (.idx (.var 2) (.tup [.var 3, .lit (.int 0)])) (.nm 3) .range [.lit (.int 1), .bin .add (.var 0) (.lit (.int 1))] [] [3])]⟩
def q15 : DD := ⟨m15, ["most", "heads", "found", "n", "free"], ⟨("_law_ended_counts", none), "_law_ended_counts", "_law_ended_counts", L2.defArgs (top 17), L2.defBody (top 17), L2.defScope (top 17), [], []⟩⟩
/-- _law_is_plane -/
def m16 : MD := ⟨2, 5, [.iff (.cmp .eq (.idx (.var 0) (.lit (.int 0))) (.lit (.str [118, 97, 114]))) [.ret (.lst false [.idx (.var 0) (.lit (.int 1))])] [], .iff (.cmp .eq (.idx (.var 0) (.lit (.int 0))) (.lit (.str [102, 117, 110]))) [.asg (.nm 4) (.call 16 [.idx (.var 0) (.lit (.int 2)), .var 1]), .iff (.boolop false [.isn false (.var 4), .cmp .ne (.slc (.var 4) true (.neg (.lit (.int 1))) false (.lit .non)) (.lst false [.idx (.var 0) (.lit (.int 1))])]) [.ret (.lit (.non))] [], .ret (.slc (.var 4) false (.lit .non) true (.neg (.lit (.int 1))))] [], .asg (.nm 2) (.call 16 [.idx (.var 0) (.lit (.int 1)), .var 1]), .asg (.nm 3) (.call 16 [.idx (.var 0) (.lit (.int 2)), .var 1]), .iff (.boolop false [.isn false (.var 2), .isn false (.var 3)]) [.ret (.lit (.non))] [], .ret (.bin .add (.var 2) (.var 3))]⟩
def q16 : DD := ⟨m16, ["term", "names", "first", "second", "free"], ⟨("_law_is_plane", none), "_law_is_plane", "_law_is_plane", L2.defArgs (top 18), L2.defBody (top 18), L2.defScope (top 18), [], []⟩⟩
/-- law -/
def m17 : MD := ⟨1, 13, [.asg (.nm 1) (.call 6 [.var 0]), .asg (.nm 2) (.call 14 [.lit (.int 7), .lit (.bl false)]), .asg (.nm 3) (.call 14 [.lit (.int 7), .lit (.bl true)]), .asg (.nm 4) (.call 15 [.lit (.int 7)]), .for_ (.nm 5) .range [.lit (.int 1), .lit (.int 4)] [.asg (.nm 8) (.call 9 [.var 5, .lst false [], .lit (.int 0)]), .asg (.nm 9) (.lst true [.bi .len [.var 8], .bi .len [.lc false (.lit (.int 1)) (.nm 11) .val [.var 8] [.val (.call 10 [.var 11])] [11]]]), .ex (.bm .append (.var 9) [.bi .len [.lc false (.lit (.int 1)) (.nm 11) .val [.var 8] [.isn true (.call 16 [.var 11, .lst false []])] [11]]]), .iff (.cmp .ne (.var 9) (.lst false [.idx (.var 2) (.bin .sub (.var 5) (.lit (.int 1))), .idx (.var 4) (.bin .sub (.var 5) (.lit (.int 1))), .idx (.var 3) (.bin .sub (.var 5) (.lit (.int 1)))])) [.ret (.lit (.bl false))] []], .for_ (.nm 6) .range [.lit (.int 2), .lit (.int 7)] [.asg (.nm 10) (.bin .add (.bin .mul (.bin .mul (.lit (.int 6)) (.var 6)) (.idx (.var 2) (.bin .sub (.var 6) (.lit (.int 1))))) (.bi .sum [.lc false (.bin .mul (.idx (.var 2) (.var 12)) (.idx (.var 2) (.bin .sub (.bin .sub (.var 6) (.var 12)) (.lit (.int 1))))) (.nm 12) .range [.lit (.int 1), .bin .sub (.var 6) (.lit (.int 1))] [] [12]])), .iff (.cmp .ne (.idx (.var 2) (.var 6)) (.var 10)) [.ret (.lit (.bl false))] []], .for_ (.nm 7) .range [.lit (.int 3)] [.asg (.nm 5) (.bin .add (.lit (.int 1)) (.call 7 [.var 1, .lit (.int 7)])), .iff (.not (.val (.call 11 [.lst false [.call 3 [.var 5], .call 5 [.var 5], .call 4 [.var 5]], .lst false [.idx (.var 2) (.bin .sub (.var 5) (.lit (.int 1))), .idx (.var 4) (.bin .sub (.var 5) (.lit (.int 1))), .idx (.var 3) (.bin .sub (.var 5) (.lit (.int 1)))]]))) [.ret (.lit (.bl false))] []], .ret (.call 11 [.lc false (.call 3 [.var 5]) (.nm 5) .val [.lst false [.lit (.int 1), .lit (.int 2), .lit (.int 3), .lit (.int 4)]] [] [5], .lst false [.lit (.int 1), .lit (.int 5), .lit (.int 60), .lit (.int 1105)]])]⟩
def q17 : DD := ⟨m17, ["script", "feed", "every", "plane", "ended", "n", "step", "turn", "terms", "counts", "total", "term", "k"], ⟨("law", none), "law", "law", L2.defArgs (top 19), L2.defBody (top 19), L2.defScope (top 19), [], []⟩⟩
def txt : Txt := ⟨[q0, q1, q2, q3, q4, q5, q6, q7, q8, q9, q10, q11, q12, q13, q14, q15, q16, q17], []⟩
def shr : Nat → Bool := fun i => i == 6
theorem ok : txt.ok = true := by decide +kernel
abbrev Pr := txt.prog shr 1000
abbrev RW := PySem.Challenge.rw_oncelinks_k83_whole_counts_of_terms
abbrev R : PySem.W.OpenRow := PySem.W.OpenLaw.row RW
abbrev hk : PySem.W.Hook := He.hookD 4 txt.fa txt.fn
def ob (s : PySem.W.SharedT) : He.AlD := He.obsDG 4 txt.fa txt.fn (HandSHeadRun.getT s)
theorem ob_eq (s : PySem.W.SharedT) : ob s = hk.obs s.abs := He.obsDG_eq (HandSHeadRun.getT_eq s)
def loose : List PySem.Str := ["ways_to_choose", "parted_counts", "table_of", "count_terms", "count_plane", "count_ended", "_law_feed", "_law_draw", "_law_parted_names", "_law_terms", "_law_is_ended", "_law_same", "_law_choose", "_law_uses", "_law_counts", "_law_ended_counts", "_law_is_plane"]
theorem run (w : PySem.World) : HandSHeadRun.RunEq R (PySem.W.view R.prog [19]) hk ob 2000 loose w := by
  intro os
  kernel_rfl
/-! ### the law's value -/
abbrev S : Sem := Pr.sem 29
def every : PV := .lst [.int 1, .int 5, .int 60, .int 1105, .int 27120, .int 828250, .int 30220800]
def plane : PV := .lst [.int 1, .int 4, .int 32, .int 336, .int 4096, .int 54912, .int 786432]
def ended : PV := .lst [.int 1, .int 3, .int 26, .int 367, .int 7142, .int 176766, .int 5304356]
def front (ns : List Int) : Slots := [some (.pv (.scr ns)), some (.ref 0), some (.pv every), some (.pv plane), some (.pv ended)]
def look1 : Option FR → Option (Slots × Nat × Option Cell)
  | some (.nx φ st) => some (φ.take 5, φ.length, st[0]?)
  | _ => none
def bodyA : List MS := m17.body.take 6
def bodyB : List MS := (match m17.body.getD 6 .pass with
  | .for_ _ _ _ b => b
  | _ => []).drop 1
def bodyC : List MS := m17.body.drop 7
set_option maxHeartbeats 0
theorem runA (ns : List Int) : look1 (exSs S bodyA (some (.pv (.scr ns)) :: List.replicate 12 none) []) = some (front ns, 13, some (feedC ns 0 0 1)) := by kernel_rfl
theorem runB1 (a0 a6 a7 a8 a9 a10 a11 a12 : Option LV) (st : Store) : exSs S bodyB [a0, some (.ref 0), some (.pv every), some (.pv plane), some (.pv ended), some (.pv (.int (1 + 0))), a6, a7, a8, a9, a10, a11, a12] st = some (.nx [a0, some (.ref 0), some (.pv every), some (.pv plane), some (.pv ended), some (.pv (.int (1 + 0))), a6, a7, a8, a9, a10, a11, a12] st) := by kernel_rfl
theorem runB2 (a0 a6 a7 a8 a9 a10 a11 a12 : Option LV) (st : Store) : exSs S bodyB [a0, some (.ref 0), some (.pv every), some (.pv plane), some (.pv ended), some (.pv (.int (1 + 1))), a6, a7, a8, a9, a10, a11, a12] st = some (.nx [a0, some (.ref 0), some (.pv every), some (.pv plane), some (.pv ended), some (.pv (.int (1 + 1))), a6, a7, a8, a9, a10, a11, a12] st) := by kernel_rfl
theorem runB3 (a0 a6 a7 a8 a9 a10 a11 a12 : Option LV) (st : Store) : exSs S bodyB [a0, some (.ref 0), some (.pv every), some (.pv plane), some (.pv ended), some (.pv (.int (1 + 2))), a6, a7, a8, a9, a10, a11, a12] st = some (.nx [a0, some (.ref 0), some (.pv every), some (.pv plane), some (.pv ended), some (.pv (.int (1 + 2))), a6, a7, a8, a9, a10, a11, a12] st) := by kernel_rfl
theorem runB4 (a0 a6 a7 a8 a9 a10 a11 a12 : Option LV) (st : Store) : exSs S bodyB [a0, some (.ref 0), some (.pv every), some (.pv plane), some (.pv ended), some (.pv (.int (1 + 3))), a6, a7, a8, a9, a10, a11, a12] st = some (.nx [a0, some (.ref 0), some (.pv every), some (.pv plane), some (.pv ended), some (.pv (.int (1 + 3))), a6, a7, a8, a9, a10, a11, a12] st) := by kernel_rfl
theorem runB5 (a0 a6 a7 a8 a9 a10 a11 a12 : Option LV) (st : Store) : exSs S bodyB [a0, some (.ref 0), some (.pv every), some (.pv plane), some (.pv ended), some (.pv (.int (1 + 4))), a6, a7, a8, a9, a10, a11, a12] st = some (.nx [a0, some (.ref 0), some (.pv every), some (.pv plane), some (.pv ended), some (.pv (.int (1 + 4))), a6, a7, a8, a9, a10, a11, a12] st) := by kernel_rfl
theorem runB6 (a0 a6 a7 a8 a9 a10 a11 a12 : Option LV) (st : Store) : exSs S bodyB [a0, some (.ref 0), some (.pv every), some (.pv plane), some (.pv ended), some (.pv (.int (1 + 5))), a6, a7, a8, a9, a10, a11, a12] st = some (.nx [a0, some (.ref 0), some (.pv every), some (.pv plane), some (.pv ended), some (.pv (.int (1 + 5))), a6, a7, a8, a9, a10, a11, a12] st) := by kernel_rfl
theorem runB7 (a0 a6 a7 a8 a9 a10 a11 a12 : Option LV) (st : Store) : exSs S bodyB [a0, some (.ref 0), some (.pv every), some (.pv plane), some (.pv ended), some (.pv (.int (1 + 6))), a6, a7, a8, a9, a10, a11, a12] st = some (.nx [a0, some (.ref 0), some (.pv every), some (.pv plane), some (.pv ended), some (.pv (.int (1 + 6))), a6, a7, a8, a9, a10, a11, a12] st) := by kernel_rfl
theorem runC (a0 a5 a6 a7 a8 a9 a10 a11 a12 : Option LV) (st : Store) : exSs S bodyC [a0, some (.ref 0), some (.pv every), some (.pv plane), some (.pv ended), a5, a6, a7, a8, a9, a10, a11, a12] st = some (.rt (.pv (.bl true)) st) := by kernel_rfl
theorem exSs_app : ∀ (a b : List MS) (φ : Slots) (st : Store) (φ1 : Slots) (st1 : Store), exSs S a φ st = some (.nx φ1 st1) → exSs S (a ++ b) φ st = exSs S b φ1 st1
  | [], b, φ, st, φ1, st1, h => by
    simp only [exSs, Option.some.injEq, FR.nx.injEq] at h
    rw [h.1, h.2]; rfl
  | s :: a, b, φ, st, φ1, st1, h => by
    simp only [List.cons_append, exSs] at h ⊢
    split at h
    · exact exSs_app a b _ _ _ _ h
    · rename_i hn
      cases q : exS S s φ st with
      | none => rw [q] at h; cases h
      | some r =>
        cases r with
        | nx φ2 st2 => exact absurd q (hn φ2 st2)
        | _ => rw [q] at h; cases h
def Shape (φ : Slots) : Prop := ∃ a0 a5 a6 a7 a8 a9 a10 a11 a12, φ = [a0, some (.ref 0), some (.pv every), some (.pv plane), some (.pv ended), a5, a6, a7, a8, a9, a10, a11, a12]
def Fed (ns : List Int) (st : Store) : Prop := ∃ i b s, FeedOk i b s ∧ st[0]? = some (feedC ns i b s)
theorem runB (v : Int) (h0 : 0 ≤ v) (h1 : v < 7) (a0 a6 a7 a8 a9 a10 a11 a12 : Option LV) (st : Store) : exSs S bodyB [a0, some (.ref 0), some (.pv every), some (.pv plane), some (.pv ended), some (.pv (.int (1 + v))), a6, a7, a8, a9, a10, a11, a12] st = some (.nx [a0, some (.ref 0), some (.pv every), some (.pv plane), some (.pv ended), some (.pv (.int (1 + v))), a6, a7, a8, a9, a10, a11, a12] st) := by
  rcases (show v = 0 ∨ v = 1 ∨ v = 2 ∨ v = 3 ∨ v = 4 ∨ v = 5 ∨ v = 6 by omega) with z | z | z | z | z | z | z <;> subst z
  · exact runB1 ..
  · exact runB2 ..
  · exact runB3 ..
  · exact runB4 ..
  · exact runB5 ..
  · exact runB6 ..
  · exact runB7 ..
/-- one turn -/
def stepB : PV → Slots → Store → Option FR := fun x φ st => match asgG (.nm 7) (.pv x) φ with
  | some φ => exSs S (match m17.body.getD 6 .pass with
    | .for_ _ _ _ b => b
    | _ => []) φ st
  | none => none
theorem turn {ns : List Int} {x : PV} {φ : Slots} {st : Store} (hs : Shape φ) (hf : Fed ns st) : ∃ φ' st', Shape φ' ∧ Fed ns st' ∧ stepB x φ st = some (.nx φ' st') := by
  obtain ⟨a0, a5, a6, a7, a8, a9, a10, a11, a12, rfl⟩ := hs
  obtain ⟨i, b, s, o, hst⟩ := hf
  obtain ⟨v, i', b', s', o', h0, h1, e⟩ := draw_ok (S := Pr.sem 28) (m := 7) hst o (by decide) (by decide)
  refine ⟨[a0, some (.ref 0), some (.pv every), some (.pv plane), some (.pv ended), some (.pv (.int (1 + v))), a6, some (.pv x), a8, a9, a10, a11, a12], st.set 0 (feedC ns i' b' s'), ⟨_, _, _, _, _, _, _, _, _, rfl⟩, ⟨i', b', s', o', fset hst⟩, ?_⟩
  have ec : S.call 7 [.ref 0, .pv (.int 7)] st = some (.ok (.pv (.int v)) (st.set 0 (feedC ns i' b' s'))) := by
    have e1 : S.cal 7 [.ref 0, .pv (.int 7)] st = some (.ok (.pv (.int v)) (st.set 0 (feedC ns i' b' s'))) := e
    have e2 : S.call 7 [.ref 0, .pv (.int 7)] st = (match S.cal 7 [.ref 0, .pv (.int 7)] st with
      | some (.ok v st1) => some (.ok v (trunc st.length (below st.length v) st1))
      | some (.ex e st1) => some (.ex e (trunc st.length true st1))
      | none => none) := rfl
    rw [e2, e1]
    simp only [trunc]
    rw [List.take_of_length_le (by rw [List.length_set]; exact Nat.le_refl _)]
    split <;> rfl
  have ed : exS S (.asg (.nm 5) (.bin .add (.lit (.int 1)) (.call 7 [.var 1, .lit (.int 7)]))) [a0, some (.ref 0), some (.pv every), some (.pv plane), some (.pv ended), a5, a6, some (.pv x), a8, a9, a10, a11, a12] st =
      some (.nx [a0, some (.ref 0), some (.pv every), some (.pv plane), some (.pv ended), some (.pv (.int (1 + v))), a6, some (.pv x), a8, a9, a10, a11, a12] (st.set 0 (feedC ns i' b' s'))) := by
    have e3 : exS S (.asg (.nm 5) (.bin .add (.lit (.int 1)) (.call 7 [.var 1, .lit (.int 7)]))) [a0, some (.ref 0), some (.pv every), some (.pv plane), some (.pv ended), a5, a6, some (.pv x), a8, a9, a10, a11, a12] st =
      R.bf [a0, some (.ref 0), some (.pv every), some (.pv plane), some (.pv ended), a5, a6, some (.pv x), a8, a9, a10, a11, a12] (R.bind (S.call 7 [.ref 0, .pv (.int 7)] st) fun y st => bin .add (.pv (.int 1)) y st) fun v st => some (.nx ([a0, some (.ref 0), some (.pv every), some (.pv plane), some (.pv ended), a5, a6, some (.pv x), a8, a9, a10, a11, a12].set 5 (some v)) st) := rfl
    rw [e3, ec]
    rfl
  have es : stepB x [a0, some (.ref 0), some (.pv every), some (.pv plane), some (.pv ended), a5, a6, a7, a8, a9, a10, a11, a12] st = (match exS S (.asg (.nm 5) (.bin .add (.lit (.int 1)) (.call 7 [.var 1, .lit (.int 7)]))) [a0, some (.ref 0), some (.pv every), some (.pv plane), some (.pv ended), a5, a6, some (.pv x), a8, a9, a10, a11, a12] st with
      | some (.nx φ st) => exSs S bodyB φ st
      | r => r) := rfl
  rw [es, ed]
  exact runB v h0 h1 _ _ _ _ _ _ _ _ _
theorem law (ns : List Int) (h : ns.length ≤ 63) : ∃ st, Pr.cal 30 17 [.pv (.scr ns)] [] = some (.ok (.pv (.bl true)) st) := by
  have e0 : Pr.cal 30 17 [.pv (.scr ns)] [] = endR (exSs S (bodyA ++ (m17.body.getD 6 .pass :: bodyC)) (some (.pv (.scr ns)) :: List.replicate 12 none) []) := rfl
  have hA := runA ns
  unfold look1 at hA
  split at hA
  · rename_i φ1 st1 e1
    simp only [Option.some.injEq, Prod.mk.injEq] at hA
    obtain ⟨k1, k2, k3⟩ := hA
    have s1 : Shape φ1 := by
      match φ1, k1, k2 with
      | [b0, b1, b2, b3, b4, b5, b6, b7, b8, b9, b10, b11, b12], k1, _ =>
        simp only [front, List.take, List.cons.injEq, and_true] at k1
        obtain ⟨h0, h1, h2, h3, h4⟩ := k1
        subst h0 h1 h2 h3 h4
        exact ⟨_, _, _, _, _, _, _, _, _, rfl⟩
    have f1 : Fed ns st1 := ⟨0, 0, 1, ⟨by decide, by decide, by decide, by decide⟩, k3⟩
    obtain ⟨φ2, st2, s2, f2, t1⟩ := turn (x := .int 0) s1 f1
    obtain ⟨φ3, st3, s3, f3, t2⟩ := turn (x := .int 1) s2 f2
    obtain ⟨φ4, st4, s4, f4, t3⟩ := turn (x := .int 2) s3 f3
    have ef : exS S (m17.body.getD 6 .pass) φ1 st1 = some (.nx φ4 st4) := by
      have : exS S (m17.body.getD 6 .pass) φ1 st1 = forLoop stepB [.int 0, .int 1, .int 2] φ1 st1 := rfl
      rw [this]
      simp only [forLoop, t1, t2, t3]
    rw [e0, exSs_app _ _ _ _ _ _ e1]
    obtain ⟨c0, c5, c6, c7, c8, c9, c10, c11, c12, rfl⟩ := s4
    refine ⟨st4, ?_⟩
    have e9 : exSs S (m17.body.getD 6 .pass :: bodyC) φ1 st1 = some (.rt (.pv (.bl true)) st4) := by
      simp only [exSs, ef]
      exact runC ..
    rw [e9]; rfl
  · cases hA
end Z83
open PySem PySem.W PySem.Calls PyProof.Rows
set_option maxHeartbeats 0 in
theorem PySem.Challenge.cw_oncelinks_k83_whole_counts_of_terms_holds : PySem.Challenge.rw_oncelinks_k83_whole_counts_of_terms.Holds := by
  w_on; o_law
  refine HandSHeadRun.head_any (r := OpenLaw.row PySem.Challenge.rw_oncelinks_k83_whole_counts_of_terms) (q := view (OpenLaw.row PySem.Challenge.rw_oncelinks_k83_whole_counts_of_terms).prog [19]) (H := Z83.hk) (ob := Z83.ob) (M := 2000) (loose := Z83.loose) (d := HandSHeadRun.topDef (OpenLaw.row PySem.Challenge.rw_oncelinks_k83_whole_counts_of_terms).prog 19) (kwd := []) Z83.ob_eq
    (by kernel_rfl) (fun s => by kernel_rfl) Z83.run (by kernel_rfl) (by kernel_rfl) (by kernel_rfl) (by rfl) (by first | assumption | decide +kernel) (by decide +kernel) ⟨rfl, rfl, rfl, rfl, rfl, by decide +kernel⟩ ?hw ?hc
  case hw => w_witness2
  case hc => exact Z.walkZ (n := 63) Z83.txt Z83.shr 1000 30 4 17 Z83.q17 "script" rfl (by decide) (by kernel_rfl) Z83.ok rfl (by kernel_rfl) rfl rfl ⟨rfl, by decide, by decide⟩ Z83.law
end
