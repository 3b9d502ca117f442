import PyProof.Rows.All
import Wide.All
import OpenK.AllK
import Wide.FinOn
import PySem.Challenge.RW_piecerealm_k43_table_numbers
import HandS.ForMost
import HandS.TupAny
import HandS.Wide
import HandS.WideBits
import HandS.SortInts
import HandS.IsInst
import HandS.Exc
import HandS.CallSlots
import HandS.TupMul
import HandS.Sort
import HandS.SortOrd
import HandS.SortRule
import KE.KSortTup
import PyProof.TupleOfSeq
import HandS.Iter
import HandS.Rev
import KE.GoesEnum
import KE.KTupSum
import HandS.DictTup
import HandS.Walk
import HandS.Deep
import HandS.RaiseMore
import HandS.Codes
import HandS.Flow
import HandS.Comp
import HandS.Zip
import HandS.Defaults
import HandS.MakeKw
import HandS.TryOnly
import HandS.Steps
import HandS.CallRecv
import PyProof.Rows.TupDisplay
import HandS.ExcField
import HandS.Head0
import HandS.Head1
import HandS.Head2
import HandS.HeadEnd
import HandS.HeadHook1
import HandS.HeadHook2
import KE.KExcSuper
import KE.KSuper
import HandS.ExcInit
import HandS.ExcValue
import HandS.HeadWalk
import HandS.Ends
import HandS.Words
set_option Elab.async false
set_option linter.all false
section
set_option maxRecDepth 100000
set_option maxHeartbeats 4000000
/-! Ev, part 1: a small language, its data and its evaluator. -/
namespace Ev
open PySem
noncomputable section
open Classical

/-! #### data and store -/
inductive D where
  | non | bl (b : Bool) | int (i : Int) | str (s : List Nat) | tup (l : List D) | lst (l : List D)
  | ref (n : Nat) | obj (c : Nat) (l : List D)
  deriving Inhabited
inductive Cell where
  | lst (l : List D)
  | ins (c : Nat) (fs : List (Nat × D))
  | dct (lk : Bool) (kvs : List (List Int × D))
abbrev Store := List Cell
abbrev Fr := List (Option D)
inductive Rs (α : Type) where
  | ok (a : α) (S : Store)
  | ex (c : Nat) (l : List D) (S : Store)
  | bad
/-- a mark that keeps simp out of a function -/
inductive Tag {α : Type} (a : α) : Type where
  | mk
def Rs.th {α β : Type} (r : Rs α) (k : α → Store → Rs β) (_t : Tag k := .mk) : Rs β :=
  match r with
  | .ok a S => k a S
  | .ex c l S => .ex c l S
  | .bad => .bad
theorem th_ok {α β : Type} (a : α) (S : Store) (k : α → Store → Rs β) (t : Tag k) : (Rs.ok a S).th k t = k a S := rfl
theorem th_ex {α β : Type} (c : Nat) (l : List D) (S : Store) (k : α → Store → Rs β) (t : Tag k) : (Rs.ex c l S : Rs α).th k t = .ex c l S := rfl
theorem th_bad {α β : Type} (k : α → Store → Rs β) (t : Tag k) : (Rs.bad : Rs α).th k t = .bad := rfl
/-- no exception may leave (within a comprehension) -/
def Rs.nox {α : Type} : Rs α → Rs α
  | .ok a S => .ok a S
  | _ => .bad

/-! #### the language -/
inductive Op where | add | sub | mul | div | mod | pow | shl | shr | band | bor | bxor
inductive Cp where | eq | ne | lt | le | gt | ge | isIn | notIn
inductive Bi where | len | abs | min | max | sum | sorted | all | any | int | str | list | tuple | bool
inductive Bm where | append | pop | extend | index | bitLength
inductive Bt where | int | bool | str | tuple | list | dict
  deriving DecidableEq
inductive Ty where | b (t : Bt) | c (k : Nat)
inductive Tg where
  | nm (i : Nat)
  | tp (l : List Nat)
mutual
inductive Ex where
  | var (i : Nat) | non | bl (b : Bool) | int (i : Int) | str (s : List Nat) | glb (g : Nat)
  | bin (op : Op) (m : Bool) (a b : Ex) | neg (a : Ex)
  | cmp (op : Cp) (a b : Ex) | chn (o1 o2 : Cp) (a b c : Ex) | isN (n : Bool) (a : Ex)
  | and (a b : Ex) | or (a b : Ex) | not (a : Ex) | ife (c a b : Ex)
  | tup (es : Exs) | lst (m : Bool) (es : Exs)
  | idx (a b : Ex) | slc (m : Bool) (a : Ex) (lo hi : Exo) | att (a : Ex) (f : Nat)
  | call (f : Nat) (es : Exs) | calk (f : Nat) (es ks : Exs) (pm : List Nat)
  | mak (m : Bool) (c : Nat) (es : Exs) | makk (m : Bool) (c : Nat) (es ks : Exs) (pm : List Nat) | mth (a : Ex) (f : Nat) (es : Exs)
  | bi (b : Bi) (m : Bool) (es : Exs) | isI (a : Ex) (ts : List Ty) (p : Bool)
  | bm (b : Bm) (a : Ex) (es : Exs)
  | dnew | dlit (e v : Ex) | dget (a k v : Ex)
  | lc (m : Bool) (own : List Nat) (tg : Tg) (it : Iter) (c : Exo) (e : Ex)
  | lc2 (m : Bool) (own : List Nat) (tg : Tg) (it : Iter) (c : Exo) (tg2 : Tg) (it2 : Iter) (c2 : Exo) (e : Ex)
inductive Exs where
  | nil | cons (e : Ex) (es : Exs)
inductive Exo where
  | no | yes (e : Ex)
inductive Iter where
  | seq (e : Ex) | rng (es : Exs) | enm (e : Ex) | zip (a b : Ex) | rev (e : Ex)
end
mutual
inductive St where
  | ex (e : Ex)
  | asg (i : Nat) (e : Ex) | asgT (is : List Nat) (e : Ex) | swp (i j : Nat) (a b : Ex)
  | asgI (o i e : Ex) | asgA (o : Ex) (f : Nat) (e : Ex)
  | augN (i : Nat) (sb : Bool) (e : Ex) | augI (o i : Ex) (sb : Bool) (e : Ex) | asg2 (i j : Nat) (e : Ex)
  | ret (e : Ex) | retN | pas | brk | cnt
  | ife (c : Ex) (a b : Sts) | whl (c : Ex) (b : Sts) | forr (tg : Tg) (it : Iter) (b : Sts)
  | rai (c : Nat) (es : Exs)
  | nev
  | tryE (b : Sts) (c : Nat) (i : Option Nat) (h : Ex)
  | forI (i j v : Nat) (b : Sts)
inductive Sts where
  | nil | cons (s : St) (ss : Sts)
  | dset (i : Nat) (e o v : Ex) (ss : Sts)
end

/-! #### what stands behind the names -/
structure Fn where
  np : Nat
  nv : Nat
  body : Sts
  fz : Bool
structure Cl where
  flds : List Nat
  init : Option Nat
  mths : List (Nat × Nat)
structure Tb where
  fns : List Fn
  cls : List Cl
  exc : List (List Nat)
  anc : List (List Nat)
  glb : List D
/-- what is called: fn at the level at hand, fn1 one level down (for an __init__) -/
structure Cs where
  T : Tb
  fn : Nat → List D → Store → Rs D
  fn1 : Nat → List D → Store → Rs D

/-! #### values -/
def Wd : Nat := 2 ^ 4000
def LIM : Nat := 16777216
/-- a list as it stands: frozen, or a cell's -/
def lstOf (d : D) (S : Store) : Option (List D) := match d with
  | .lst l => some l
  | .ref n => match S[n]? with
    | some (.lst l) => some l
    | _ => none
  | _ => none
def seqOf (d : D) (S : Store) : Option (List D) := match d with
  | .tup l => some l
  | .lst l => some l
  | .ref n => match S[n]? with
    | some (.lst l) => some l
    | _ => none
  | _ => none
/-- a new list -/
def mkL (m : Bool) (l : List D) (S : Store) : Rs D := if m then .ok (.ref S.length) (S ++ [.lst l]) else .ok (.lst l) S
def truD (d : D) (S : Store) : Option Bool := match d with
  | .non => some false
  | .bl b => some b
  | .int i => some (i != 0)
  | .str s => if s.length ≤ LIM then some (!s.isEmpty) else none
  | .tup l => some (!l.isEmpty)
  | .lst l => some (!l.isEmpty)
  | .ref n => match S[n]? with
    | some (.lst l) => some (!l.isEmpty)
    | _ => none
  | .obj _ _ => none
def b2i (b : Bool) : Int := if b then 1 else 0
/-- ints, bools among them -/
def numD : D → Option Int
  | .int i => some i
  | _ => none
def arI (op : Op) (i j : Int) : Option Int := match op with
  | .add => some (i + j)
  | .sub => some (i - j)
  | .mul => if i.natAbs < Wd ∧ j.natAbs < Wd then some (i * j) else none
  | .div => if 0 < j ∧ j.natAbs < Wd then some (i / j) else none
  | .mod => if 0 < j then some (i % j) else none
  | .pow => if 0 ≤ j ∧ j ≤ 1000000 ∧ i.natAbs < 2 ^ 64 then some (i ^ j.toNat) else none
  | .shl => if 0 ≤ j ∧ j ≤ 1000000 ∧ i.natAbs < 2 ^ 64 then some (i * 2 ^ j.toNat) else none
  | .shr => if 0 ≤ j then some (i / 2 ^ j.toNat) else none
  | .band => some (Builtin.bitAnd i j)
  | .bor => some (Builtin.bitOr i j)
  | .bxor => some (Builtin.bitXor i j)
def binD (op : Op) (m : Bool) (d e : D) (S : Store) : Rs D := match d, e with
  | .int i, .int j => match arI op i j with
    | some k => .ok (.int k) S
    | none => .bad
  | .str s, .str t => match op with
    | .add => if s.length + t.length ≤ LIM then .ok (.str (s ++ t)) S else .bad
    | _ => .bad
  | .tup s, .tup t => match op with
    | .add => if s.length + t.length ≤ LIM then .ok (.tup (s ++ t)) S else .bad
    | _ => .bad
  | .tup s, .int k => match op with
    | .mul => if 1 ≤ k ∧ k ≤ 1000 ∧ 1 ≤ s.length ∧ s.length ≤ 1000 then .ok (.tup (List.replicate k.toNat s).flatten) S else .bad
    | _ => .bad
  | d, e => match op, lstOf d S, lstOf e S with
    | .add, some s, some t => if s.length + t.length ≤ LIM then mkL m (s ++ t) S else .bad
    | _, _, _ => .bad
/-! == -/
mutual
def eqD : D → D → Bool
  | .non, .non => true
  | .bl a, .bl b => a == b
  | .bl a, .int j => (if a then (1 : Int) else 0) == j
  | .int i, .bl b => i == (if b then (1 : Int) else 0)
  | .int i, .int j => i == j
  | .str x, .str y => x == y
  | .lst xs, .lst ys => eqL xs ys
  | .tup xs, .tup ys => eqL xs ys
  | _, _ => false
def eqL : List D → List D → Bool
  | [], [] => true
  | x :: xs, y :: ys => eqD x y && eqL xs ys
  | _, _ => false
end
mutual
/-- plain data: no object, nested below n -/
def pln : Nat → D → Bool
  | _, .non => true
  | _, .bl _ => true
  | _, .int _ => true
  | _, .str s => s.all (· < 0x110000)
  | 0, .tup _ => false
  | 0, .lst _ => false
  | n + 1, .tup l => plnL n l
  | n + 1, .lst l => plnL n l
  | _, .ref _ => false
  | _, .obj _ _ => false
def plnL : Nat → List D → Bool
  | _, [] => true
  | n, d :: l => pln n d && plnL n l
end
/-- the list of a cell in its place -/
def vw (d : D) (S : Store) : D := match d with
  | .ref n => match S[n]? with
    | some (.lst l) => .lst l
    | _ => d
  | _ => d
/-- tuples and lists of ints in order; ints -/
def allInt : List D → Option (List Int)
  | [] => some []
  | .int i :: r => match allInt r with
    | some l => some (i :: l)
    | none => none
  | _ :: _ => none
def cmpI (op : Cp) (i j : Int) : Bool := match op with
  | .lt => decide (i < j)
  | .le => decide (i ≤ j)
  | .gt => decide (j < i)
  | .ge => decide (j ≤ i)
  | .eq => decide (i = j)
  | .ne => !decide (i = j)
  | _ => false
def flD : D → Bool
  | .non => true
  | .bl _ => true
  | .int _ => true
  | .str _ => true
  | _ => false
/-- x in a list or tuple -/
def inD (d e : D) (S : Store) : Option Bool := match e with
  | .tup l => if flD d && l.all flD then some (l.any fun x => eqD x d) else none
  | e => match lstOf e S with
    | some l => if pln 60 (vw d S) && plnL 60 l then some (l.any fun x => eqD x (vw d S)) else none
    | none => none
def intCmp (op : Cp) (d e : D) : Option Bool := match d, e with
  | .int i, .int j => some (cmpI op i j)
  | _, _ => none
def cmpD (op : Cp) (d e : D) (S : Store) : Option Bool := match op with
  | .eq => if pln 60 (vw d S) && pln 60 (vw e S) then some (eqD (vw d S) (vw e S)) else none
  | .ne => if pln 60 (vw d S) && pln 60 (vw e S) then some (!eqD (vw d S) (vw e S)) else none
  | .isIn => inD d e S
  | .notIn => match inD d e S with
    | some b => some (!b)
    | none => none
  | op => intCmp op d e
/-- a place of a sequence -/
def ixN (n : Nat) (i : Int) : Option Nat := if 0 ≤ i then (if i < n then some i.toNat else none) else if -(n : Int) ≤ i then some (i + n).toNat else none
def idxD (d e : D) (S : Store) : Option D := match e with
  | .int i => match d with
    | .str s => if s.length ≤ LIM then match ixN s.length i with
        | some k => match s[k]? with
          | some c => some (.str [c])
          | none => none
        | none => none
      else none
    | d => match seqOf d S with
      | some l => match ixN l.length i with
        | some k => l[k]?
        | none => none
      | none => none
  | _ => none
def sIx (n d : Nat) : Option Int → Nat
  | none => d
  | some v => if v < 0 then (v + (n : Int)).toNat else min v.toNat n
def cut {α : Type} (xs : List α) (lo hi : Option Int) : List α := (xs.drop (sIx xs.length 0 lo)).take (sIx xs.length xs.length hi - sIx xs.length 0 lo)
def slcD (m : Bool) (d : D) (lo hi : Option Int) (S : Store) : Rs D := match d with
  | .tup l => .ok (.tup (cut l lo hi)) S
  | .str l => if l.length ≤ LIM then .ok (.str (cut l lo hi)) S else .bad
  | d => match lstOf d S with
    | some l => mkL m (cut l lo hi) S
    | none => .bad
def isD (T : Tb) (d : D) (S : Store) (t : Ty) : Option Bool := match t with
  | .b t => match d with
    | .non => some false
    | .bl _ => some (t == .bool || t == .int)
    | .int _ => some (t == .int)
    | .str _ => some (t == .str)
    | .tup _ => some (t == .tuple)
    | .lst _ => some (t == .list)
    | .ref n => match S[n]? with
      | some (.lst _) => some (t == .list)
      | some (.ins c _) => if c < T.cls.length then some false else none
      | some (.dct _ _) => none
      | none => none
    | .obj c _ => if c < T.cls.length then some false else none
  | .c k => if k < T.cls.length then
      match d with
      | .ref n => match S[n]? with
        | some (.lst _) => some false
        | some (.ins c _) => if c < T.cls.length then some (c == k) else none
        | some (.dct _ _) => none
        | none => none
      | .obj c _ => if c < T.cls.length then some (c == k) else none
      | _ => some false
    else none
def isAny (T : Tb) (d : D) (S : Store) : List Ty → Option Bool
  | [] => some false
  | t :: r => match isD T d S t with
    | some true => some true
    | some false => isAny T d S r
    | none => none
/-! built-in functions -/
def sumI : List Int → Int
  | [] => 0
  | x :: r => x + sumI r
def insI (x : Int) : List Int → List Int
  | [] => [x]
  | y :: r => if x ≤ y then x :: y :: r else y :: insI x r
def sortI : List Int → List Int
  | [] => []
  | x :: r => insI x (sortI r)
/-- the order of lists of ints -/
def lexL : List Int → List Int → Bool
  | [], [] => false
  | [], _ :: _ => true
  | _ :: _, [] => false
  | x :: xs, y :: ys => if x = y then lexL xs ys else decide (x < y)
def insT (x : List Int) : List (List Int) → List (List Int)
  | [] => [x]
  | y :: r => if lexL y x = false then x :: y :: r else y :: insT x r
def sortT : List (List Int) → List (List Int)
  | [] => []
  | x :: r => insT x (sortT r)
def allTup : List D → Option (List (List Int))
  | [] => some []
  | .tup l :: r => match allInt l, allTup r with
    | some (x :: xs), some q => some ((x :: xs) :: q)
    | _, _ => none
  | _ :: _ => none
def tupI (l : List Int) : D := .tup (l.map .int)
def allBl : List D → Option (List Bool)
  | [] => some []
  | .bl b :: r => match allBl r with
    | some l => some (b :: l)
    | none => none
  | _ :: _ => none
def maxI : Int → List Int → Int
  | m, [] => m
  | m, x :: r => maxI (if x > m then x else m) r
def minI : Int → List Int → Int
  | m, [] => m
  | m, x :: r => minI (if x < m then x else m) r
def biD (b : Bi) (m : Bool) (ds : List D) (S : Store) : Rs D := match b, ds with
  | .len, [d] => match d with
    | .str s => if s.length ≤ LIM then .ok (.int s.length) S else .bad
    | d => match seqOf d S with
      | some l => .ok (.int l.length) S
      | none => .bad
  | .abs, [.int i] => .ok (.int (if i < 0 then -i else i)) S
  | .min, [.int i, .int j] => .ok (.int (if j < i then j else i)) S
  | .max, [.int i, .int j] => .ok (.int (if j > i then j else i)) S
  | .min, [d] => match lstOf d S with
    | some l => match allInt l with
      | some (x :: r) => .ok (.int (minI x r)) S
      | _ => .bad
    | none => .bad
  | .max, [d] => match lstOf d S with
    | some l => match allInt l with
      | some (x :: r) => .ok (.int (maxI x r)) S
      | _ => .bad
    | none => .bad
  | .sum, [d] => match seqOf d S with
    | some l => match allInt l with
      | some l => .ok (.int (sumI l)) S
      | none => .bad
    | none => .bad
  | .sorted, [d] => match seqOf d S with
    | some l => match allInt l with
      | some l => mkL m ((sortI l).map .int) S
      | none => match allTup l with
        | some l => mkL m ((sortT l).map tupI) S
        | none => .bad
    | none => .bad
  | .all, [d] => match lstOf d S with
    | some l => match allBl l with
      | some l => .ok (.bl (l.all id)) S
      | none => .bad
    | none => .bad
  | .any, [d] => match lstOf d S with
    | some l => match allBl l with
      | some l => .ok (.bl (l.any id)) S
      | none => .bad
    | none => .bad
  | .int, [.int i] => .ok (.int i) S
  | .int, [.bl b] => .ok (.int (if b then 1 else 0)) S
  | .str, [.int i] => if i.natAbs.log2 < 1920 then .ok (.str ((toString i).toList.map Char.toNat)) S else .bad
  | .list, [d] => match seqOf d S with
    | some l => mkL m l S
    | none => .bad
  | .tuple, [d] => match seqOf d S with
    | some l => .ok (.tup l) S
    | none => .bad
  | .bool, [.int i] => .ok (.bl (i != 0)) S
  | .bool, [.bl b] => .ok (.bl b) S
  | _, _ => .bad
def putAt (S : Store) (n : Nat) (c : Cell) : Store := S.set n c
def bmD (b : Bm) (d : D) (ds : List D) (S : Store) : Rs D := match b, ds with
  | .append, [e] => match d with
    | .ref n => match S[n]? with
      | some (.lst l) => if l.length < LIM then .ok .non (S.set n (.lst (l ++ [e]))) else .bad
      | _ => .bad
    | _ => .bad
  | .pop, [] => match d with
    | .ref n => match S[n]? with
      | some (.lst l) => match l[l.length - 1]? with
        | some e => .ok e (S.set n (.lst l.dropLast))
        | none => .bad
      | _ => .bad
    | _ => .bad
  | .bitLength, [] => match d with
    | .int i => .ok (.int (Builtin.Int.intBits i : Nat)) S
    | _ => .bad
  | _, _ => .bad
/-- the receiver is of the method's type -/
def bmOk (b : Bm) (d : D) (S : Store) : Bool := match b with
  | .bitLength => match d with
    | .int _ => true
    | _ => false
  | .index => match d with
    | .lst _ => true
    | .ref n => match S[n]? with
      | some (.lst _) => true
      | _ => false
    | _ => false
  | _ => match d with
    | .ref n => match S[n]? with
      | some (.lst _) => true
      | _ => false
    | _ => false
def setI (d e x : D) (S : Store) : Option Store := match d, e with
  | .ref n, .int i => match S[n]? with
    | some (.lst l) => match ixN l.length i with
      | some k => some (S.set n (.lst (l.set k x)))
      | none => none
    | _ => none
  | _, _ => none
/-- x += y, x -= y -/
def augV (sb : Bool) (x y : D) : Option D := match x, y with
  | .int i, .int j => some (.int (if sb then i - j else i + j))
  | _, _ => none
def refIx (d e : D) (S : Store) : Option D := match d with
  | .ref n => match S[n]? with
    | some (.lst l) => match e with
      | .int i => match ixN l.length i with
        | some k => l[k]?
        | none => none
      | _ => none
    | _ => none
  | _ => none
def valS (ρ : Fr) (i : Nat) : Option D := match ρ[i]? with
  | some (some d) => some d
  | _ => none
/-! attributes -/
def lookN {α : Type} (f : Nat) : List (Nat × α) → Option α
  | [] => none
  | (g, x) :: r => if g = f then some x else lookN f r
def putN (f : Nat) (x : D) : List (Nat × D) → List (Nat × D)
  | [] => [(f, x)]
  | (g, y) :: r => if g = f then (g, x) :: r else (g, y) :: putN f x r
def fldsOf (T : Tb) (c : Nat) : List Nat := match T.cls[c]? with
  | some C => C.flds
  | none => []
def attD (T : Tb) (d : D) (f : Nat) (S : Store) : Option D := match d with
  | .obj c l => lookN f ((fldsOf T c).zip l)
  | .ref n => match S[n]? with
    | some (.ins c fs) => if (fldsOf T c).contains f then lookN f fs else none
    | _ => none
  | _ => none
def mthC (T : Tb) (c f : Nat) : Option Nat := match T.cls[c]? with
  | some C => lookN f C.mths
  | none => none
def mthOf (T : Tb) (d : D) (f : Nat) (S : Store) : Option Nat := match d with
  | .obj c _ => if (fldsOf T c).contains f then none else mthC T c f
  | .ref n => match S[n]? with
    | some (.ins c fs) => if (fs.map (·.1)).contains f then none else mthC T c f
    | _ => none
  | _ => none
mutual
/-- no cell from n on -/
def below (n : Nat) : D → Bool
  | .ref k => decide (k < n)
  | .tup l => belowL n l
  | .lst l => belowL n l
  | .obj _ l => belowL n l
  | _ => true
def belowL (n : Nat) : List D → Bool
  | [] => true
  | d :: l => below n d && belowL n l
end
def belowC (n : Nat) : Cell → Bool
  | .lst l => belowL n l
  | .ins _ fs => belowL n (fs.map (·.2))
  | .dct _ kvs => belowL n (kvs.map (·.2))
/-- may the cells behind those of S be forgotten? -/
def cutOk (S S' : Store) : Bool := decide (S'.take S.length = S) || (S'.take S.length).all (belowC S.length)
/-- behind a call: cells that nobody sees are dropped; fz: a new list that is handed back is frozen -/
def tidy (fz : Bool) (S : Store) (r : Rs D) : Rs D := match r with
  | .ok d S' =>
    if cutOk S S' then
      if below S.length d then .ok d (S'.take S.length)
      else if fz then
        match d with
        | .ref n => match S'[n]? with
          | some (.lst l) => if belowL S.length l then .ok (.lst l) (S'.take S.length) else .ok d S'
          | _ => .ok d S'
        | _ => .ok d S'
      else .ok d S'
    else .ok d S'
  | .ex c l S' => if cutOk S S' && belowL S.length l then .ex c l (S'.take S.length) else .ex c l S'
  | .bad => .bad
/-- C(..): a new instance, its __init__, then frozen (m: kept as a cell) -/
def makD (T : Tb) (fn1 : Nat → List D → Store → Rs D) (m : Bool) (c : Nat) (ds : List D) (S : Store) : Rs D := match T.cls[c]? with
  | some C => match C.init with
    | some f => match fn1 f (.ref S.length :: ds) (S ++ [.ins c []]) with
      | .ok .non S' =>
        if m then .ok (.ref S.length) S'
        else match S'[S.length]? with
          | some (.ins c' fs) => if c' = c ∧ fs.map (·.1) = C.flds ∧ belowL S.length (fs.map (·.2)) ∧ cutOk S S' then .ok (.obj c (fs.map (·.2))) (S'.take S.length) else .bad
          | _ => .bad
      | .ok _ _ => .bad
      | .ex x l S' => if cutOk S S' && belowL S.length l then .ex x l (S'.take S.length) else .ex x l S'
      | .bad => .bad
    | none => .bad
  | none => .bad

/-! #### targets, what is walked -/
def setS (ρ : Fr) (i : Nat) (d : D) : Fr := ρ.set i (some d)
def setAll : List Nat → List D → Fr → Option Fr
  | [], [], ρ => some ρ
  | i :: is, d :: ds, ρ => setAll is ds (setS ρ i d)
  | _, _, _ => none
def setT (tg : Tg) (d : D) (ρ : Fr) (S : Store) : Option Fr := match tg with
  | .nm i => some (setS ρ i d)
  | .tp is => match seqOf d S with
    | some l => setAll is l ρ
    | none => none
def wipe (ρ : Fr) : List Nat → Fr
  | [] => ρ
  | i :: is => (wipe ρ is).set i none
abbrev Gd := List (Nat × Cell)
/-- the lists that are walked stand as they stood -/
def gOk (g : Gd) (S : Store) : Bool := decide (∀ p ∈ g, S[p.1]? = some p.2)
def guard (d : D) (S : Store) : Gd := match d with
  | .ref n => match S[n]? with
    | some c => [(n, c)]
    | none => []
  | _ => []
def upTo (i : Int) : Nat → List D
  | 0 => []
  | n + 1 => .int i :: upTo (i + 1) n
def dnTo (i : Int) : Nat → List D
  | 0 => []
  | n + 1 => .int i :: dnTo (i - 1) n
def seqIt (d : D) (S : Store) : Rs (List D × Gd) := match d with
  | .str s => .ok (s.map fun c => .str [c], []) S
  | d => match seqOf d S with
    | some l => .ok (l, guard d S) S
    | none => .bad
def rngIt (ds : List D) (S : Store) : Rs (List D × Gd) := match ds with
  | [.int j] => if j ≤ LIM ∧ -(LIM : Int) ≤ j then .ok (upTo 0 j.toNat, []) S else .bad
  | [.int i, .int j] => if j - i ≤ LIM ∧ i.natAbs < 2 ^ 61 ∧ j.natAbs < 2 ^ 61 then .ok (upTo i (j - i).toNat, []) S else .bad
  | [.int i, .int j, .int c] => if c = -1 ∧ i - j ≤ LIM ∧ i.natAbs < 2 ^ 61 ∧ j.natAbs < 2 ^ 61 then .ok (dnTo i (i - j).toNat, []) S else .bad
  | _ => .bad
def enmL (i : Int) : List D → List D
  | [] => []
  | d :: r => .tup [.int i, d] :: enmL (i + 1) r
def enmIt (d : D) (S : Store) : Rs (List D × Gd) := match seqOf d S with
  | some l => .ok (enmL 0 l, guard d S) S
  | none => .bad
def zipIt (d e : D) (S : Store) : Rs (List D × Gd) := match d, e with
  | .tup l, .tup r => .ok ((l.zip r).map fun p => .tup [p.1, p.2], []) S
  | d, e => match lstOf d S, lstOf e S with
    | some l, some r => .ok ((l.zip r).map fun p => .tup [p.1, p.2], guard d S ++ guard e S) S
    | _, _ => .bad
def revIt (d : D) (S : Store) : Rs (List D × Gd) := match seqOf d S with
  | some l => .ok (l.reverse, guard d S) S
  | none => .bad
def ofO {α : Type} (o : Option α) (S : Store) : Rs α := match o with
  | some a => .ok a S
  | none => .bad
/-- the items of a comprehension, one behind another; k: the new list's cell -/
def lcL (tg : Tg) (fc : Fr → Store → Rs Bool) (fe : Fr → Store → Rs D) (ρ : Fr) (g : Gd) (k : Nat) : List D → Store → Rs Unit
  | [], S => if gOk g S then .ok () S else .bad
  | d :: ds, S =>
    if gOk g S then
      match setT tg d ρ S with
      | some ρ1 => (fc ρ1 S).th fun b S1 =>
        if b then (fe ρ1 S1).th fun x S2 => match S2[k]? with
          | some (.lst acc) => if acc.length < LIM then lcL tg fc fe ρ g k ds (S2.set k (.lst (acc ++ [x]))) else .bad
          | _ => .bad
        else lcL tg fc fe ρ g k ds S1
      | none => .bad
    else .bad
def tgIx : Tg → List Nat
  | .nm i => [i]
  | .tp is => is
/-- .. of two: the inner items are looked up in each turn of the outer ones -/
def lcL2 (tg : Tg) (fc : Fr → Store → Rs Bool) (fw : Fr → Store → Rs (List D × Gd)) (tg2 : Tg) (fc2 : Fr → Store → Rs Bool) (fe : Fr → Store → Rs D) (ρ : Fr) (g : Gd) (k : Nat) : List D → Store → Rs Unit
  | [], S => if gOk g S then .ok () S else .bad
  | d :: ds, S =>
    if gOk g S then
      match setT tg d ρ S with
      | some ρ1 => (fc ρ1 S).th fun b S1 =>
        if b then (fw ρ1 S1).th fun p S2 => (lcL tg2 fc2 fe (wipe ρ1 (tgIx tg2)) p.2 k p.1 S2).th fun _ S3 => lcL2 tg fc fw tg2 fc2 fe ρ g k ds S3
        else lcL2 tg fc fw tg2 fc2 fe ρ g k ds S1
      | none => .bad
    else .bad
/-- .. its end -/
def lcE (m : Bool) (S S' : Store) : Rs D := match S'[S.length]? with
  | some (.lst l) => if m then .ok (.ref S.length) S' else if cutOk S S' && belowL S.length l then .ok (.lst l) (S'.take S.length) else .ok (.ref S.length) S'
  | _ => .bad
def pick {α : Type} (ds : List α) : List Nat → Option (List α)
  | [] => some []
  | i :: r => match ds[i]?, pick ds r with
    | some d, some l => some (d :: l)
    | _, _ => none

/-! dicts whose keys are tuples of ints -/
def keyD : D → Option (List Int)
  | .tup l => allInt l
  | _ => none
def getK (k : List Int) : List (List Int × D) → Option D
  | [] => none
  | (j, x) :: r => if j = k then some x else getK k r
def putD (k : List Int) (x : D) (kvs : List (List Int × D)) : List (List Int × D) :=
  if kvs.any (fun q => decide (q.1 = k)) then kvs.map (fun q => if q.1 = k then (q.1, x) else q) else kvs ++ [(k, x)]
def dctOf (d : D) (S : Store) : Option (List (List Int × D)) := match d with
  | .ref n => match S[n]? with
    | some (.dct _ kvs) => some kvs
    | _ => none
  | _ => none
def dgetD (d k x : D) (S : Store) : Option D := match dctOf d S, keyD k with
  | some kvs, some k => match getK k kvs with
    | some y => some y
    | none => some x
  | _, _ => none
/-- the ints of a list -/
def lstI (d : D) (S : Store) : Option (List Int) := match lstOf d S with
  | some l => allInt l
  | none => none
def dputD (d : D) (k : List Int) (x : D) (S : Store) : Option Store := match d with
  | .ref n => match S[n]? with
    | some (.dct false kvs) => if kvs.length < LIM then some (S.set n (.dct false (putD k x kvs))) else none
    | _ => none
  | _ => none
/-- {k: x}, the new dict's cell at n -/
def dnewD (n : Nat) (k : List Int) (x : D) (S : Store) : Rs D := match S[n]? with
  | some (.dct false []) => .ok (.ref n) (S.set n (.dct false [(k, x)]))
  | _ => .bad
def opnD (d : D) (S : Store) : Option (Nat × List (List Int × D)) := match d with
  | .ref n => match S[n]? with
    | some (.dct false kvs) => some (n, kvs)
    | _ => none
  | _ => none
def itmL (kvs : List (List Int × D)) : List D := kvs.map fun q => .tup [tupI q.1, q.2]
def isNo (n : Bool) (d : D) : Bool := match d with
  | .non => !n
  | _ => n
/-! #### expressions -/
mutual
def evE (C : Cs) : Ex → Fr → Store → Rs D
  | .var i, ρ, S => match ρ[i]? with
    | some (some d) => .ok d S
    | _ => .bad
  | .non, _, S => .ok .non S
  | .bl b, _, S => .ok (.bl b) S
  | .int i, _, S => .ok (.int i) S
  | .str s, _, S => .ok (.str s) S
  | .glb g, _, S => ofO C.T.glb[g]? S
  | .bin op m a b, ρ, S => (evE C a ρ S).th fun d S1 => (evE C b ρ S1).th fun e S2 => binD op m d e S2
  | .neg a, ρ, S => (evE C a ρ S).th fun d S1 => match d with
    | .int i => .ok (.int (-i)) S1
    | _ => .bad
  | .cmp op a b, ρ, S => (evE C a ρ S).th fun d S1 => (evE C b ρ S1).th fun e S2 => (ofO (cmpD op d e S2) S2).th fun k S3 => .ok (.bl k) S3
  | .chn o1 o2 a b c, ρ, S => (evE C a ρ S).th fun d S1 => (evE C b ρ S1).th fun e S2 => (ofO (cmpD o1 d e S2) S2).th fun k S3 =>
      if k then (evE C c ρ S3).th fun f S4 => (ofO (cmpD o2 e f S4) S4).th fun k2 S5 => .ok (.bl k2) S5 else .ok (.bl false) S3
  | .isN n a, ρ, S => (evE C a ρ S).th fun d S1 => .ok (.bl (isNo n d)) S1
  | .and a b, ρ, S => (evE C a ρ S).th fun d S1 => (ofO (truD d S1) S1).th fun k S2 => if k then evE C b ρ S2 else .ok d S2
  | .or a b, ρ, S => (evE C a ρ S).th fun d S1 => (ofO (truD d S1) S1).th fun k S2 => if k then .ok d S2 else evE C b ρ S2
  | .not a, ρ, S => (evE C a ρ S).th fun d S1 => (ofO (truD d S1) S1).th fun k S2 => .ok (.bl (!k)) S2
  | .ife c a b, ρ, S => (evT C c ρ S).th fun k S1 => if k then evE C a ρ S1 else evE C b ρ S1
  | .tup es, ρ, S => (evL C es ρ S).th fun ds S1 => .ok (.tup ds) S1
  | .lst m es, ρ, S => (evL C es ρ S).th fun ds S1 => mkL m ds S1
  | .idx a b, ρ, S => (evE C a ρ S).th fun d S1 => (evE C b ρ S1).th fun e S2 => ofO (idxD d e S2) S2
  | .slc m a lo hi, ρ, S => (evE C a ρ S).th fun d S1 => (evI C lo ρ S1).th fun l S2 => (evI C hi ρ S2).th fun h S3 => slcD m d l h S3
  | .att a f, ρ, S => (evE C a ρ S).th fun d S1 => ofO (attD C.T d f S1) S1
  | .call f es, ρ, S => (evL C es ρ S).th fun ds S1 => C.fn f ds S1
  | .calk f es ks pm, ρ, S => (evL C es ρ S).th fun ds S1 => (evL C ks ρ S1).th fun zs S2 => (ofO (pick (ds ++ zs) pm) S2).th fun ws S3 => C.fn f ws S3
  | .mak m c es, ρ, S => (evL C es ρ S).th fun ds S1 => makD C.T C.fn1 m c ds S1
  | .makk m c es ks pm, ρ, S => (evL C es ρ S).th fun ds S1 => (evL C ks ρ S1).th fun zs S2 => (ofO (pick (ds ++ zs) pm) S2).th fun ws S3 => makD C.T C.fn1 m c ws S3
  | .mth a f es, ρ, S => (evE C a ρ S).th fun d S1 => (ofO (mthOf C.T d f S1) S1).th fun k S2 => (evL C es ρ S2).th fun ds S3 => C.fn k (d :: ds) S3
  | .bi b m es, ρ, S => (evL C es ρ S).th fun ds S1 => biD b m ds S1
  | .isI a ts _, ρ, S => (evE C a ρ S).th fun d S1 => (ofO (isAny C.T d S1 ts) S1).th fun k S2 => .ok (.bl k) S2
  | .bm b a es, ρ, S => (evE C a ρ S).th fun d S1 => if bmOk b d S1 then (evL C es ρ S1).th fun ds S2 => bmD b d ds S2 else .bad
  | .lc m own tg it c e, ρ, S => (evW C it ρ S).th fun p S1 =>
      ((lcL tg (fun ρ S => evC C c ρ S) (fun ρ S => evE C e ρ S) (wipe ρ own) p.2 S1.length p.1 (S1 ++ [.lst []])).nox).th fun _ S2 => lcE m S1 S2
  | .lc2 m own tg it c tg2 it2 c2 e, ρ, S => (evW C it ρ S).th fun p S1 =>
      ((lcL2 tg (fun ρ S => evC C c ρ S) (fun ρ S => evW C it2 ρ S) tg2 (fun ρ S => evC C c2 ρ S) (fun ρ S => evE C e ρ S) (wipe ρ own) p.2 S1.length p.1 (S1 ++ [.lst []])).nox).th fun _ S2 => lcE m S1 S2
  | .dnew, _, S => .ok (.ref S.length) (S ++ [.dct false []])
  | .dlit e v, ρ, S => (evE C e ρ (S ++ [.dct false []])).th fun d S1 => (ofO (lstI d S1) S1).th fun k S2 => (evE C v ρ S2).th fun x S3 => dnewD S.length k x S3
  | .dget a k v, ρ, S => (evE C a ρ S).th fun d S1 => if (dctOf d S1).isSome then (evE C k ρ S1).th fun y S2 => (evE C v ρ S2).th fun x S3 => ofO (dgetD d y x S3) S3 else .bad
/-- as a test -/
def evT (C : Cs) : Ex → Fr → Store → Rs Bool
  | .and a b, ρ, S => (evT C a ρ S).th fun k S1 => if k then evT C b ρ S1 else .ok false S1
  | .or a b, ρ, S => (evT C a ρ S).th fun k S1 => if k then .ok true S1 else evT C b ρ S1
  | .not a, ρ, S => (evT C a ρ S).th fun k S1 => .ok (!k) S1
  | .cmp op a b, ρ, S => (evE C a ρ S).th fun d S1 => (evE C b ρ S1).th fun e S2 => ofO (cmpD op d e S2) S2
  | .chn o1 o2 a b c, ρ, S => (evE C a ρ S).th fun d S1 => (evE C b ρ S1).th fun e S2 => (ofO (cmpD o1 d e S2) S2).th fun k S3 =>
      if k then (evE C c ρ S3).th fun f S4 => ofO (cmpD o2 e f S4) S4 else .ok false S3
  | .isN n a, ρ, S => (evE C a ρ S).th fun d S1 => .ok (isNo n d) S1
  | .var i, ρ, S => match ρ[i]? with
    | some (some d) => ofO (truD d S) S
    | _ => .bad
  | .bl b, _, S => .ok b S
  | .call f es, ρ, S => (evL C es ρ S).th fun ds S1 => (C.fn f ds S1).th fun d S2 => ofO (truD d S2) S2
  | .calk f es ks pm, ρ, S => (evL C es ρ S).th fun ds S1 => (evL C ks ρ S1).th fun zs S2 => (ofO (pick (ds ++ zs) pm) S2).th fun ws S3 => (C.fn f ws S3).th fun d S4 => ofO (truD d S4) S4
  | .mth a f es, ρ, S => (evE C a ρ S).th fun d S1 => (ofO (mthOf C.T d f S1) S1).th fun k S2 => (evL C es ρ S2).th fun ds S3 => (C.fn k (d :: ds) S3).th fun d S4 => ofO (truD d S4) S4
  | .bi b m es, ρ, S => (evL C es ρ S).th fun ds S1 => (biD b m ds S1).th fun d S2 => ofO (truD d S2) S2
  | .isI a ts _, ρ, S => (evE C a ρ S).th fun d S1 => ofO (isAny C.T d S1 ts) S1
  | .idx a b, ρ, S => (evE C a ρ S).th fun d S1 => (evE C b ρ S1).th fun e S2 => (ofO (idxD d e S2) S2).th fun d S3 => ofO (truD d S3) S3
  | .att a f, ρ, S => (evE C a ρ S).th fun d S1 => (ofO (attD C.T d f S1) S1).th fun d S2 => ofO (truD d S2) S2
  | .bin op m a b, ρ, S => (evE C a ρ S).th fun d S1 => (evE C b ρ S1).th fun e S2 => (binD op m d e S2).th fun d S3 => ofO (truD d S3) S3
  | _, _, _ => .bad
def evL (C : Cs) : Exs → Fr → Store → Rs (List D)
  | .nil, _, S => .ok [] S
  | .cons e es, ρ, S => (evE C e ρ S).th fun d S1 => (evL C es ρ S1).th fun ds S2 => .ok (d :: ds) S2
/-- a slice's part -/
def evI (C : Cs) : Exo → Fr → Store → Rs (Option Int)
  | .no, _, S => .ok none S
  | .yes e, ρ, S => (evE C e ρ S).th fun d S1 => match d with
    | .int i => .ok (some i) S1
    | _ => .bad
/-- a comprehension's test -/
def evC (C : Cs) : Exo → Fr → Store → Rs Bool
  | .no, _, S => .ok true S
  | .yes e, ρ, S => evT C e ρ S
def evW (C : Cs) : Iter → Fr → Store → Rs (List D × Gd)
  | .seq e, ρ, S => (evE C e ρ S).th fun d S1 => seqIt d S1
  | .rng es, ρ, S => (evL C es ρ S).th fun ds S1 => rngIt ds S1
  | .enm e, ρ, S => (evE C e ρ S).th fun d S1 => enmIt d S1
  | .zip a b, ρ, S => (evE C a ρ S).th fun d S1 => (evE C b ρ S1).th fun e S2 => zipIt d e S2
  | .rev e, ρ, S => (evE C e ρ S).th fun d S1 => revIt d S1
end

/-! #### statements -/
inductive Os where
  | nx (ρ : Fr) (S : Store) | rt (d : D) (S : Store) | bk (ρ : Fr) (S : Store) | ct (ρ : Fr) (S : Store)
  | ex (c : Nat) (l : List D) (ρ : Fr) (S : Store)
  | bad
def Os.sq (r : Os) (k : Fr → Store → Os) (_t : Tag k := .mk) : Os := match r with
  | .nx ρ S => k ρ S
  | r => r
def Rs.os {α : Type} (r : Rs α) (ρ : Fr) (k : α → Store → Os) (_t : Tag k := .mk) : Os := match r with
  | .ok a S => k a S
  | .ex c l S => .ex c l ρ S
  | .bad => .bad
/-- a for over items -/
def forL (tg : Tg) (f : Fr → Store → Os) (g : Gd) : List D → Fr → Store → Os
  | [], ρ, S => if gOk g S then .nx ρ S else .bad
  | d :: ds, ρ, S =>
    if gOk g S then
      match setT tg d ρ S with
      | some ρ1 => match f ρ1 S with
        | .nx ρ2 S2 => forL tg f g ds ρ2 S2
        | .ct ρ2 S2 => forL tg f g ds ρ2 S2
        | .bk ρ2 S2 => .nx ρ2 S2
        | r => r
      | none => .bad
    else .bad
/-- behind the items of the dict at n: it is open again -/
def opn (n : Nat) (kvs : List (List Int × D)) (r : Os) : Os := match r with
  | .nx ρ S => .nx ρ (S.set n (.dct false kvs))
  | .rt d S => .rt d (S.set n (.dct false kvs))
  | .bk ρ S => .bk ρ (S.set n (.dct false kvs))
  | .ct ρ S => .ct ρ (S.set n (.dct false kvs))
  | r => r
/-- at most n turns of a while (none: more are asked) -/
def whlN (c : Fr → Store → Rs Bool) (f : Fr → Store → Os) : Nat → Fr → Store → Option Os
  | 0, _, _ => none
  | n + 1, ρ, S => match c ρ S with
    | .ok true S1 => match f ρ S1 with
      | .nx ρ2 S2 => whlN c f n ρ2 S2
      | .ct ρ2 S2 => whlN c f n ρ2 S2
      | .bk ρ2 S2 => some (.nx ρ2 S2)
      | r => some r
    | .ok false S1 => some (.nx ρ S1)
    | .ex x l S1 => some (.ex x l ρ S1)
    | .bad => some .bad
def whl (c : Fr → Store → Rs Bool) (f : Fr → Store → Os) (ρ : Fr) (S : Store) : Os :=
  if h : ∃ n r, whlN c f n ρ S = some r then h.choose_spec.choose else .bad
/-- the names of a caught exception's fields -/
def excF (T : Tb) (c : Nat) : List Nat := T.exc.getD c []
def ancOf (T : Tb) (c : Nat) : List Nat := T.anc.getD c []
/-- what an except suite may be: one return of a plain expression; slot i is the exception -/
def evH (T : Tb) (c : Nat) (l : List D) (i : Option Nat) : Ex → Fr → Store → Rs D
  | .var j, ρ, S => if i = some j then .bad else match ρ[j]? with
    | some (some d) => .ok d S
    | _ => .bad
  | .non, _, S => .ok .non S
  | .bl b, _, S => .ok (.bl b) S
  | .int k, _, S => .ok (.int k) S
  | .str s, _, S => .ok (.str s) S
  | .att (.var j) f, ρ, S => if i = some j ∧ j < ρ.length then ofO (lookN f ((excF T c).zip l)) S else .bad
  | .tup es, ρ, S => (evHL T c l i es ρ S).th fun ds S1 => .ok (.tup ds) S1
  | _, _, _ => .bad
where evHL (T : Tb) (c : Nat) (l : List D) (i : Option Nat) : Exs → Fr → Store → Rs (List D)
  | .nil, _, S => .ok [] S
  | .cons e es, ρ, S => (evH T c l i e ρ S).th fun d S1 => (evHL T c l i es ρ S1).th fun ds S2 => .ok (d :: ds) S2
mutual
def exS (C : Cs) : St → Fr → Store → Os
  | .ex e, ρ, S => (evE C e ρ S).os ρ fun _ S1 => .nx ρ S1
  | .asg i e, ρ, S => (evE C e ρ S).os ρ fun d S1 => .nx (setS ρ i d) S1
  | .asgT is e, ρ, S => (evE C e ρ S).os ρ fun d S1 => match setT (.tp is) d ρ S1 with
    | some ρ1 => .nx ρ1 S1
    | none => .bad
  | .swp i j a b, ρ, S => (evE C a ρ S).os ρ fun d S1 => (evE C b ρ S1).os ρ fun e S2 => .nx (setS (setS ρ i d) j e) S2
  | .asgI o i e, ρ, S => (evE C e ρ S).os ρ fun x S1 => (evE C o ρ S1).os ρ fun d S2 => (evE C i ρ S2).os ρ fun k S3 => match setI d k x S3 with
    | some S4 => .nx ρ S4
    | none => .bad
  | .augN i sb e, ρ, S => (ofO (valS ρ i) S).os ρ fun x S0 => (evE C e ρ S0).os ρ fun y S1 => match augV sb x y with
    | some z => .nx (setS ρ i z) S1
    | none => .bad
  | .augI o i sb e, ρ, S => (evE C o ρ S).os ρ fun d S1 => (evE C i ρ S1).os ρ fun k S2 => (ofO (refIx d k S2) S2).os ρ fun x S3 => (evE C e ρ S3).os ρ fun y S4 => match augV sb x y with
    | some z => match setI d k z S4 with
      | some S5 => .nx ρ S5
      | none => .bad
    | none => .bad
  | .asg2 i j e, ρ, S => (evE C e ρ S).os ρ fun d S1 => .nx (setS (setS ρ i d) j d) S1
  | .asgA o f e, ρ, S => (evE C e ρ S).os ρ fun x S1 => (evE C o ρ S1).os ρ fun d S2 => match d with
    | .ref n => match S2[n]? with
      | some (.ins c fs) => if fs.length < 1000 ∧ (fldsOf C.T c).contains f then .nx ρ (S2.set n (.ins c (putN f x fs))) else .bad
      | _ => .bad
    | _ => .bad
  | .ret e, ρ, S => (evE C e ρ S).os ρ fun d S1 => .rt d S1
  | .retN, _, S => .rt .non S
  | .pas, ρ, S => .nx ρ S
  | .nev, _, _ => .bad
  | .brk, ρ, S => .bk ρ S
  | .cnt, ρ, S => .ct ρ S
  | .ife c a b, ρ, S => (evT C c ρ S).os ρ fun k S1 => if k then exSs C a ρ S1 else exSs C b ρ S1
  | .whl c b, ρ, S => whl (fun ρ S => evT C c ρ S) (fun ρ S => exSs C b ρ S) ρ S
  | .forr tg it b, ρ, S => (evW C it ρ S).os ρ fun p S1 => forL tg (fun ρ S => exSs C b ρ S) p.2 p.1 ρ S1
  | .forI i j v b, ρ, S => (ofO (valS ρ v) S).os ρ fun d S1 => match opnD d S1 with
    | some (n, kvs) => opn n kvs (forL (.tp [i, j]) (fun ρ S => exSs C b ρ S) [(n, .dct true kvs)] (itmL kvs) ρ (S1.set n (.dct true kvs)))
    | none => .bad
  | .rai c es, ρ, S => (evL C es ρ S).os ρ fun ds S1 => if ds.length = (excF C.T c).length ∧ ds.length = 1 then .ex c ds ρ S1 else .bad
  | .tryE b c i h, ρ, S => match exSs C b ρ S with
    | .ex x l ρ1 S1 => if (ancOf C.T x).contains c then (evH C.T x l i h (match i with
        | some j => ρ1.set j none
        | none => ρ1) S1).nox.os ρ1 fun d S2 => .rt d S2
      else .ex x l ρ1 S1
    | r => r
def exSs (C : Cs) : Sts → Fr → Store → Os
  | .nil, ρ, S => .nx ρ S
  | .cons s ss, ρ, S => (exS C s ρ S).sq fun ρ1 S1 => exSs C ss ρ1 S1
  | .dset i e o v ss, ρ, S => if ρ.length ≤ i then .bad else (evE C e ρ S).os ρ fun d S1 => (ofO (lstI d S1) S1).os ρ fun k S2 => (evE C v (setS ρ i (tupI k)) S2).os (setS ρ i (tupI k)) fun x S3 => (evE C o (setS ρ i (tupI k)) S3).os (setS ρ i (tupI k)) fun q S4 => match dputD q k x S4 with
    | some S5 => exSs C ss (setS ρ i (tupI k)) S5
    | none => .bad
end

/-! #### defs -/
def startF (n : Nat) (ds : List D) : Fr := ds.map some ++ List.replicate (n - ds.length) none
def toR : Os → Rs D
  | .nx _ S => .ok .non S
  | .rt d S => .ok d S
  | .ex c l _ S => .ex c l S
  | _ => .bad
def runB (C : Cs) (f : Nat) (ds : List D) (S : Store) : Rs D := match C.T.fns[f]? with
  | some F => if ds.length = F.np then tidy F.fz S (toR (exSs C F.body (startF F.nv ds) S)) else .bad
  | none => .bad
def csOf (T : Tb) : Nat → Cs
  | 0 => ⟨T, fun _ _ _ => .bad, fun _ _ _ => .bad⟩
  | n + 1 => ⟨T, runB (csOf T n), (csOf T n).fn⟩
/-- a call at level n -/
def run (T : Tb) (n : Nat) : Nat → List D → Store → Rs D := (csOf T n).fn
theorem csOf_T (T : Tb) (n : Nat) : (csOf T n).T = T := by cases n <;> rfl
theorem csOf_fn (T : Tb) (n : Nat) : (csOf T n).fn = run T n := rfl
theorem csOf_fn1 (T : Tb) (n : Nat) : (csOf T (n + 1)).fn1 = run T n := rfl
theorem run_succ (T : Tb) (n f : Nat) (ds : List D) (S : Store) : run T (n + 1) f ds S = runB (csOf T n) f ds S := rfl
theorem run_zero (T : Tb) (f : Nat) (ds : List D) (S : Store) : run T 0 f ds S = .bad := rfl
end
end Ev
end
section
set_option maxRecDepth 100000
set_option maxHeartbeats 4000000
/-! Ev, part 2: does a text of the small language stand for a text of Python? -/
namespace Ev
open PySem
/-- the names -/
structure Nm where
  fns : List Str
  /-- calls with keywords: the def, how many values, the keywords, where each parameter is found -/
  kws : List (Nat × Nat × List Str × List Nat)
  cls : List Str
  /-- .. of classes -/
  ckw : List (Nat × Nat × List Str × List Nat)
  exc : List Str
  atts : List Str
  glb : List Str
/-- where an expression stands: the slots' names, the scope, the block's own scope (a comprehension) -/
structure Sx where
  N : List Str
  sc : Scope
  blk : Option Scope
def seeB (X : Sx) (i : Nat) (x : Str) : Bool := decide (X.N[i]? = some x) && !(x == ("__debug__" : Str)) && !(x == ("__classdict__" : Str)) && (match X.sc.names.lookup x with
  | some .local => true
  | some .cell => true
  | some .free => true
  | _ => false)
def putB (X : Sx) (i : Nat) (x : Str) : Bool := decide (X.N[i]? = some x) && (match X.sc.names.lookup x with
  | some .local => true
  | some .cell => (match X.blk with
    | none => true
    | some b => decide (b.names.lookup x = some .cell))
  | _ => false)
def gloB (X : Sx) (x : Str) : Bool := (match X.sc.names.lookup x with
  | some .globalImplicit => true
  | _ => false) && !(x == ("__debug__" : Str)) && !(x == ("__name__" : Str)) && !(x == ("super" : Str)) && !(x == ("" : Str))
def Op.of : Op → Operator
  | .add => .Add | .sub => .Sub | .mul => .Mult | .div => .FloorDiv | .mod => .Mod | .pow => .Pow | .shl => .LShift | .shr => .RShift
  | .band => .BitAnd | .bor => .BitOr | .bxor => .BitXor
def opB (o : Op) (p : Operator) : Bool := match o, p with
  | .add, .Add => true | .sub, .Sub => true | .mul, .Mult => true | .div, .FloorDiv => true | .mod, .Mod => true | .pow, .Pow => true
  | .shl, .LShift => true | .shr, .RShift => true | .band, .BitAnd => true | .bor, .BitOr => true | .bxor, .BitXor => true
  | _, _ => false
def Cp.of : Cp → CmpOp
  | .eq => .Eq | .ne => .NotEq | .lt => .Lt | .le => .LtE | .gt => .Gt | .ge => .GtE | .isIn => .In | .notIn => .NotIn
def cpB (o : Cp) (p : CmpOp) : Bool := match o, p with
  | .eq, .Eq => true | .ne, .NotEq => true | .lt, .Lt => true | .le, .LtE => true | .gt, .Gt => true | .ge, .GtE => true
  | .isIn, .In => true | .notIn, .NotIn => true
  | _, _ => false
def Bi.of : Bi → Str
  | .len => "len" | .abs => "abs" | .min => "min" | .max => "max" | .sum => "sum" | .sorted => "sorted" | .all => "all" | .any => "any"
  | .int => "int" | .str => "str" | .list => "list" | .tuple => "tuple" | .bool => "bool"
def Bm.of : Bm → Str
  | .append => "append" | .pop => "pop" | .extend => "extend" | .index => "index" | .bitLength => "bit_length"
def Bt.of : Bt → Str
  | .int => "int" | .bool => "bool" | .str => "str" | .tuple => "tuple" | .list => "list" | .dict => "dict"
def notSlice : Expr → Bool
  | .Slice _ _ _ _ => false
  | _ => true
def notTuple : Expr → Bool
  | .Tuple _ _ _ => false
  | _ => true
def notComp : Expr → Bool
  | .ListComp _ _ _ _ => false
  | .SetComp _ _ _ _ => false
  | .DictComp _ _ _ _ _ => false
  | _ => true
def tyB (M : Nm) (t : Ty) (X : Sx) (e : Expr) : Bool := match e with
  | .Name x _ => gloB X x && (match t with
    | .b t => decide (x = t.of)
    | .c k => decide (M.cls[k]? = some x))
  | _ => false
def tysB (M : Nm) (X : Sx) : List Ty → List Expr → Bool
  | [], [] => true
  | t :: r, e :: es => tyB M t X e && tysB M X r es
  | _, _ => false
def tgsB (X : Sx) : List Nat → List Expr → Bool
  | [], [] => true
  | i :: is, e :: es => (match e with
    | .Name x _ => putB X i x
    | _ => false) && tgsB X is es
  | _, _ => false
def tgB (X : Sx) (t : Tg) (e : Expr) : Bool := match t with
  | .nm i => (match e with
    | .Name x _ => putB X i x
    | _ => false)
  | .tp is => (match e with
    | .Tuple es _ _ => tgsB X is es
    | _ => false)
def kwN : List Keyword → List Str
  | [] => []
  | q :: qs => (q.arg.getD "") :: kwN qs
def kwE : List Keyword → List Expr
  | [] => []
  | q :: qs => q.value :: kwE qs
def kwAll (qs : List Keyword) : Bool := qs.all fun q => q.arg.isSome
mutual
def chkE (M : Nm) : Ex → Sx → Expr → Bool
  | .var i, X, e => (match e with
    | .Name x _ => seeB X i x
    | _ => false)
  | .non, X, e => (match e with
    | .Constant .none _ _ => true
    | _ => false)
  | .bl b, X, e => (match e with
    | .Constant (.bool c) _ _ => b == c
    | _ => false)
  | .int i, X, e => (match e with
    | .Constant (.int j) _ _ => decide (i = j)
    | _ => false)
  | .str s, X, e => (match e with
    | .Constant (.str x) _ _ => decide (x = ⟨s.toArray⟩)
    | _ => false)
  | .glb g, X, e => (match e with
    | .Name x _ => gloB X x && decide (M.glb[g]? = some x)
    | _ => false)
  | .bin op _ a b, X, e => (match e with
    | .BinOp x p y _ => opB op p && (chkE M a X x && chkE M b X y)
    | _ => false)
  | .neg a, X, e => (match e with
    | .UnaryOp .USub x _ => chkE M a X x
    | _ => false)
  | .cmp op a b, X, e => (match e with
    | .Compare x [p] [y] _ => cpB op p && (chkE M a X x && chkE M b X y)
    | _ => false)
  | .chn o1 o2 a b c, X, e => (match e with
    | .Compare x [p, q] [y, z] _ => cpB o1 p && (cpB o2 q && (chkE M a X x && (chkE M b X y && chkE M c X z)))
    | _ => false)
  | .isN n a, X, e => (match e with
    | .Compare x [p] [.Constant .none _ _] _ => (match n, p with
      | false, .Is => true
      | true, .IsNot => true
      | _, _ => false) && chkE M a X x
    | _ => false)
  | .and a b, X, e => (match e with
    | .BoolOp .And (x :: y :: r) p => chkE M a X x && chkE M b X (match r with
      | [] => y
      | z :: r => .BoolOp .And (y :: z :: r) p)
    | _ => false)
  | .or a b, X, e => (match e with
    | .BoolOp .Or (x :: y :: r) p => chkE M a X x && chkE M b X (match r with
      | [] => y
      | z :: r => .BoolOp .Or (y :: z :: r) p)
    | _ => false)
  | .not a, X, e => (match e with
    | .UnaryOp .Not x _ => chkE M a X x
    | _ => false)
  | .ife c a b, X, e => (match e with
    | .IfExp t x y _ => chkE M c X t && (chkE M a X x && chkE M b X y)
    | _ => false)
  | .tup es, X, e => (match e with
    | .Tuple l _ _ => decide (l.length ≤ LIM) && chkL M es X l
    | _ => false)
  | .lst _ es, X, e => (match e with
    | .List l _ => decide (l.length ≤ LIM) && chkL M es X l
    | _ => false)
  | .idx a b, X, e => (match e with
    | .Subscript x y _ => notSlice y && (chkE M a X x && chkE M b X y)
    | _ => false)
  | .slc _ a lo hi, X, e => (match e with
    | .Subscript x (.Slice l h none _) _ => chkE M a X x && (chkO M lo X l && chkO M hi X h)
    | _ => false)
  | .att a f, X, e => (match e with
    | .Attribute x n _ => decide (M.atts[f]? = some n) && chkE M a X x
    | _ => false)
  | .call f es, X, e => (match e with
    | .Call (.Name x _) l [] _ => gloB X x && (decide (M.fns[f]? = some x) && chkL M es X l)
    | _ => false)
  | .calk f es ks pm, X, e => (match e with
    | .Call (.Name x _) l qs _ => gloB X x && (decide (M.fns[f]? = some x) && (chkL M es X l && (chkL M ks X (kwE qs) && (kwAll qs && M.kws.contains (f, l.length, kwN qs, pm)))))
    | _ => false)
  | .makk _ c es ks pm, X, e => (match e with
    | .Call (.Name x _) l qs _ => gloB X x && (decide (M.cls[c]? = some x) && (chkL M es X l && (chkL M ks X (kwE qs) && (kwAll qs && M.ckw.contains (c, l.length, kwN qs, pm)))))
    | _ => false)
  | .mak _ c es, X, e => (match e with
    | .Call (.Name x _) l [] _ => gloB X x && (decide (M.cls[c]? = some x) && chkL M es X l)
    | _ => false)
  | .mth a f es, X, e => (match e with
    | .Call (.Attribute x n p) l [] q => decide (M.atts[f]? = some n) && (p.endLine == q.line && (chkE M a X x && (decide (l.length < 20) && chkL M es X l)))
    | _ => false)
  | .bi b _ es, X, e => (match e with
    | .Call (.Name x _) l [] _ => gloB X x && (decide (x = b.of) && chkL M es X l)
    | _ => false)
  | .isI a ts p, X, e => (match e with
    | .Call (.Name x _) [y, t] [] _ => gloB X x && (decide (x = "isinstance") && (chkE M a X y && (match p with
      | false => (match ts with
        | [ty] => tyB M ty X t
        | _ => false)
      | true => (match t with
        | .Tuple l _ _ => !ts.isEmpty && (decide (ts.length ≤ LIM) && tysB M X ts l)
        | _ => false))))
    | _ => false)
  | .bm b a es, X, e => (match e with
    | .Call (.Attribute x n p) l [] q => decide (n = b.of) && (p.endLine == q.line && (chkE M a X x && (decide (l.length < 20) && chkL M es X l)))
    | _ => false)
  | .dnew, X, e => (match e with
    | .Dict [] [] _ => true
    | _ => false)
  | .dlit e0 v, X, e => (match e with
    | .Dict [some (.Call (.Name x _) [y] [] _)] [w] _ => gloB X x && (decide (x = "tuple") && (chkE M e0 X y && chkE M v X w))
    | _ => false)
  | .dget a k v, X, e => (match e with
    | .Call (.Attribute x n p) [y, z] [] q => decide (n = "get") && (p.endLine == q.line && (chkE M a X x && (chkE M k X y && chkE M v X z)))
    | _ => false)
  | .lc _ own tg it c e0, X, e => (match e with
    | .ListComp x [⟨t, i, ifs, 0⟩] sc _ => L2.blkC X.N X.sc sc (own.map fun j => (X.N.getD j "", j)) && (tgB ⟨X.N, L2.relS sc X.sc, some sc⟩ tg t && ((match tg with
        | .nm j => own.contains j
        | .tp js => js.all own.contains) && (chkW M it X t i && (chkI M c ⟨X.N, L2.relS sc X.sc, some sc⟩ ifs && chkE M e0 ⟨X.N, L2.relS sc X.sc, some sc⟩ x))))
    | _ => false)
  | .lc2 _ own tg it c tg2 it2 c2 e0, X, e => (match e with
    | .ListComp x [⟨t, i, ifs, 0⟩, ⟨t2, i2, ifs2, 0⟩] sc _ => L2.blkC X.N X.sc sc (own.map fun j => (X.N.getD j "", j)) && (tgB ⟨X.N, L2.relS sc X.sc, some sc⟩ tg t && ((tgIx tg).all own.contains && (chkW M it X t i && (chkI M c ⟨X.N, L2.relS sc X.sc, some sc⟩ ifs && (tgB ⟨X.N, L2.relS sc X.sc, some sc⟩ tg2 t2 && ((tgIx tg2).all own.contains && (chkW M it2 ⟨X.N, L2.relS sc X.sc, some sc⟩ t2 i2 && (chkI M c2 ⟨X.N, L2.relS sc X.sc, some sc⟩ ifs2 && chkE M e0 ⟨X.N, L2.relS sc X.sc, some sc⟩ x))))))))
    | _ => false)
def chkL (M : Nm) : Exs → Sx → List Expr → Bool
  | .nil, X, l => l.isEmpty
  | .cons e es, X, l => (match l with
    | x :: r => chkE M e X x && chkL M es X r
    | [] => false)
def chkO (M : Nm) : Exo → Sx → Option Expr → Bool
  | .no, X, o => o.isNone
  | .yes e, X, o => (match o with
    | some x => chkE M e X x
    | none => false)
def chkI (M : Nm) : Exo → Sx → List Expr → Bool
  | .no, X, l => l.isEmpty
  | .yes e, X, l => (match l with
    | [x] => chkE M e X x
    | _ => false)
def chkW (M : Nm) : Iter → Sx → Expr → Expr → Bool
  | .seq e, X, _, x => chkE M e X x
  | .rng es, X, _, x => (match x with
    | .Call (.Name n _) l [] _ => gloB X n && (decide (n = "range") && ((decide (l.length = 1) || decide (l.length = 2) || decide (l.length = 3)) && chkL M es X l))
    | _ => false)
  | .enm e, X, t, x => (match x with
    | .Call (.Name n _) [y] [] _ => !(notTuple t) && gloB X n && (decide (n = "enumerate") && chkE M e X y)
    | _ => false)
  | .zip a b, X, t, x => (match x with
    | .Call (.Name n _) [y, z] [] _ => !(notTuple t) && gloB X n && (decide (n = "zip") && (chkE M a X y && chkE M b X z))
    | _ => false)
  | .rev e, X, _, x => (match x with
    | .Call (.Name n _) [y] [] _ => gloB X n && (decide (n = "reversed") && chkE M e X y)
    | _ => false)
end
/-- a, b = x, y: are the stores swapped (the library's swappedStores, of two names)? -/
def swpB (X : Sx) (x y : Str) (px py : Pos) (vs : List Expr) : Bool :=
  (match X.sc.names.lookup x with
  | some .local => true
  | _ => false) && (match X.sc.names.lookup y with
  | some .local => true
  | _ => false) && px.line == py.line && !(x == y) && !(vs.all (foldedForSure 8)) && !(vs.all (constantsAlone 8)) && !(vs.any fun | .Starred .. => true | _ => false)
/-- what a handler's expression may be -/
def hanE (X : Sx) (M : Nm) : Ex → Expr → Bool
  | .var i, e => (match e with
    | .Name x _ => seeB X i x
    | _ => false)
  | .non, e => (match e with
    | .Constant .none _ _ => true
    | _ => false)
  | .bl b, e => (match e with
    | .Constant (.bool c) _ _ => b == c
    | _ => false)
  | .int i, e => (match e with
    | .Constant (.int j) _ _ => decide (i = j)
    | _ => false)
  | .str s, e => (match e with
    | .Constant (.str x) _ _ => decide (x = ⟨s.toArray⟩)
    | _ => false)
  | .att (.var j) f, e => (match e with
    | .Attribute (.Name x _) n _ => seeB X j x && decide (M.atts[f]? = some n)
    | _ => false)
  | .tup es, e => (match e with
    | .Tuple l _ _ => decide (l.length ≤ LIM) && hanL X M es l
    | _ => false)
  | _, _ => false
where hanL (X : Sx) (M : Nm) : Exs → List Expr → Bool
  | .nil, l => l.isEmpty
  | .cons e es, l => (match l with
    | x :: r => hanE X M e x && hanL X M es r
    | [] => false)
/-- += or -= -/
def augB (sb : Bool) (op : Operator) : Bool := match sb, op with
  | false, .Add => true
  | true, .Sub => true
  | _, _ => false
mutual
def chkS (M : Nm) : St → Sx → Stmt → Bool
  | .ex e, X, s => (match s with
    | .Expr v _ => notComp v && chkE M e X v
    | _ => false)
  | .asg i e, X, s => (match s with
    | .Assign [.Name x _] v _ => putB X i x && chkE M e X v
    | _ => false)
  | .asgT is e, X, s => (match s with
    | .Assign [.Tuple l _ _] v _ => (match v with
        | .Tuple vs _ _ => vs.all (foldedForSure 8) || !(l.length == 2 || l.length == 3)
        | _ => true) && (tgsB X is l && chkE M e X v)
    | _ => false)
  | .swp i j a b, X, s => (match s with
    | .Assign [.Tuple [.Name x px, .Name y py] _ _] (.Tuple [v, w] _ _) _ => swpB X x y px py [v, w] && (putB X i x && (putB X j y && (!(i == j) && (chkE M a X v && chkE M b X w))))
    | _ => false)
  | .asgI o i e, X, s => (match s with
    | .Assign [.Subscript x y _] v _ => notSlice y && (chkE M o X x && (chkE M i X y && chkE M e X v))
    | _ => false)
  | .augN i sb e, X, s => (match s with
    | .AugAssign (.Name x _) op v _ => augB sb op && (putB X i x && chkE M e X v)
    | _ => false)
  | .augI o i sb e, X, s => (match s with
    | .AugAssign (.Subscript x y _) op v _ => augB sb op && (notSlice y && (chkE M o X x && (chkE M i X y && chkE M e X v)))
    | _ => false)
  | .asg2 i j e, X, s => (match s with
    | .Assign [.Name x _, .Name y _] v _ => putB X i x && (putB X j y && (notTuple v && chkE M e X v))
    | _ => false)
  | .asgA o f e, X, s => (match s with
    | .Assign [.Attribute x n _] v _ => decide (M.atts[f]? = some n) && (chkE M o X x && chkE M e X v)
    | _ => false)
  | .ret e, X, s => (match s with
    | .Return (some v) _ => chkE M e X v
    | _ => false)
  | .retN, X, s => (match s with
    | .Return none _ => true
    | _ => false)
  | .pas, X, s => (match s with
    | .Pass _ => true
    | _ => false)
  | .nev, _, _ => true
  | .brk, X, s => (match s with
    | .Break _ => true
    | _ => false)
  | .cnt, X, s => (match s with
    | .Continue _ => true
    | _ => false)
  | .ife c a b, X, s => (match s with
    | .If t x y _ => chkE M c X t && (chkSs M a X x && chkSs M b X y)
    | _ => false)
  | .whl c b, X, s => (match s with
    | .While t x [] _ => chkE M c X t && chkSs M b X x
    | _ => false)
  | .forr tg it b, X, s => (match s with
    | .For t i x [] _ => tgB X tg t && (chkW M it X t i && chkSs M b X x)
    | _ => false)
  | .forI i j v b, X, s => (match s with
    | .For (.Tuple [.Name x px, .Name y py] k pt) (.Call (.Attribute (.Name o po) n p) [] [] q) z [] _ => decide (n = "items") && (p.endLine == q.line && (tgB X (.tp [i, j]) (.Tuple [.Name x px, .Name y py] k pt) && (seeB X v o && chkSs M b X z)))
    | _ => false)
  | .rai c es, X, s => (match s with
    | .Raise (some (.Call (.Name x _) l [] _)) none _ => gloB X x && (decide (M.exc[c]? = some x) && chkL M es X l)
    | _ => false)
  | .tryE b c i h, X, s => (match s with
    | .Try x [.ExceptHandler (some (.Name n _)) o [.Return (some v) _] _] [] [] _ => gloB X n && (decide (M.exc[c]? = some n) && (chkSs M b X x && (hanE X M h v && (match i, o with
      | none, none => true
      | some j, some y => decide (X.N[j]? = some y) && decide (X.sc.names.lookup y = some .local)
      | _, _ => false))))
    | _ => false)
def chkSs (M : Nm) : Sts → Sx → List Stmt → Bool
  | .nil, X, l => l.isEmpty
  | .cons s ss, X, l => (match l with
    | x :: r => chkS M s X x && chkSs M ss X r
    | [] => false)
  | .dset i e o v ss, X, l => (match l with
    | .Assign [.Name x _] (.Call (.Name f _) [y] [] _) _ :: .Assign [.Subscript z (.Name x2 _) _] w _ :: r => putB X i x && (seeB X i x2 && (gloB X f && (decide (f = "tuple") && (chkE M e X y && (chkE M v X w && (chkE M o X z && chkSs M ss X r))))))
    | _ => false)
end
end Ev
end
section
set_option maxRecDepth 100000
set_option maxHeartbeats 4000000
/-! Ev, part 3: data and the heap. -/
namespace Ev
open PySem PySem.Spec PyProof.Rows L2
/-- the program, its names, where its classes stand -/
structure Pg where
  P : Program
  w : World
  K : PySem.W.Frag
  mg : Str → Option Value
  base : Heap
  M : Nm
  T : Tb
  ca : Nat → Addr
  xa : Nat → Addr
  fa : Nat → Addr
  fd : Nat → FuncData
  ps : Nat → List Str
def Pg.att (G : Pg) (f : Nat) : Str := match G.M.atts[f]? with
  | some x => x
  | none => ⟨Array.replicate (1000 + f) 0⟩
def KT (K : PySem.W.Frag) (a : Addr) (xs : List V) : Prop := ∃ (o : Obj) (its : Array Value) (n : Nat), K.lookup a = some o ∧ o.cls = .type "tuple" ∧ o.data = .seq its n ∧ its.size ≤ sizeLine ∧ Vals xs its.toList
/-- a frozen list, a tuple: no cell's, or of the written part -/
def FzL (m : List Addr) (H : Hp) (p : Addr) (vs : List V) : Prop := p ∉ m ∧ Rd H p (.lst vs)
def FzT (K : PySem.W.Frag) (m : List Addr) (H : Hp) (p : Addr) (vs : List V) : Prop := (p ∉ m ∧ Rd H p (.tup vs)) ∨ KT K p vs
def FzO (m : List Addr) (H : Hp) (p C : Addr) (fs : List (Str × V)) : Prop := p ∉ m ∧ ∃ dx, H p = some (.ins C dx fs)
def namesOf (G : Pg) (c : Nat) : List Str := (fldsOf G.T c).map G.att
mutual
/-- v stands for d -/
def Rep (G : Pg) (m : List Addr) (H : Hp) : D → V → Prop
  | .non, v => v = .non
  | .bl b, v => v = .bl b
  | .int i, v => v = .int i
  | .str s, v => v = .str ⟨s.toArray⟩
  | .tup l, v => ∃ p vs, v = .ref p ∧ FzT G.K m H p vs ∧ RepL G m H l vs
  | .lst l, v => ∃ p vs, v = .ref p ∧ FzL m H p vs ∧ RepL G m H l vs
  | .ref n, v => ∃ p, v = .ref p ∧ m[n]? = some p
  | .obj c l, v => ∃ p vs, v = .ref p ∧ FzO m H p (G.ca c) ((namesOf G c).zip vs) ∧ RepL G m H l vs
def RepL (G : Pg) (m : List Addr) (H : Hp) : List D → List V → Prop
  | [], vs => vs = []
  | d :: l, vs => ∃ v r, vs = v :: r ∧ Rep G m H d v ∧ RepL G m H l r
end
/-- an int as a key -/
def iK (i : Int) : Key := .inl i
/-- locked, or not -/
def Lk (lk : Bool) (H : Hp) (p : Addr) (u : HO) : Prop := match lk with
  | true => ∃ o, H p = some (.frz o u)
  | false => H p = some u
/-- not locked -/
def NF (H : Hp) (p : Addr) : Prop := ∀ o u, H p ≠ some (.frz o u)
def RepC (G : Pg) (m : List Addr) (H : Hp) : Cell → Addr → Prop
  | .lst l, p => ∃ vs, H p = some (.lst vs) ∧ RepL G m H l vs
  | .ins c fs, p => ∃ dx vs, H p = some (.ins (G.ca c) dx ((fs.map fun f => G.att f.1).zip vs)) ∧ RepL G m H (fs.map (·.2)) vs
  | .dct lk kvs, p => ∃ vs, Lk lk H p (.dT ((kvs.map fun q => q.1.map iK).zip vs)) ∧ RepL G m H (kvs.map (·.2)) vs
/-- the cells stand at the addresses m -/
structure RS (G : Pg) (m : List Addr) (H : Hp) (S : Store) : Prop where
  len : m.length = S.length
  nd : m.Nodup
  cel : ∀ (n : Nat) (c : Cell), S[n]? = some c → ∃ p, m[n]? = some p ∧ RepC G m H c p
structure RE (G : Pg) (m : List Addr) (H : Hp) (ρ : Fr) (σ : L2.St) : Prop where
  len : ρ.length = σ.length
  at_ : ∀ (i : Nat) (d : D), ρ[i]? = some (some d) → ∃ v, σ[i]? = some (some v) ∧ Rep G m H d v
/-- what stood stands; new cells behind the old ones -/
structure Ext (m : List Addr) (H : Hp) (m' : List Addr) (H' : Hp) : Prop where
  pre : m <+: m'
  keep : ∀ a o, H a = some o → a ∉ m → H' a = some o ∧ a ∉ m'
  frz : ∀ a o u, H a = some (.frz o u) → H' a = some (.frz o u)
section
variable {G : Pg} {m m' m2 : List Addr} {H H' H2 : Hp} {S S' : Store} {ρ : Fr} {σ : L2.St}
theorem Lk.at' {lk : Bool} {p : Addr} {u : HO} (h : Lk lk H p u) (e : H' p = H p) : Lk lk H' p u := by
  cases lk with
  | true => exact let ⟨o, h⟩ := h; ⟨o, e.trans h⟩
  | false => exact e.trans h
theorem Lk.there {lk : Bool} {p : Addr} {u : HO} (h : Lk lk H p u) : ∃ o, H p = some o := by
  cases lk with
  | true => exact let ⟨o, h⟩ := h; ⟨_, h⟩
  | false => exact ⟨_, h⟩
theorem Ext.refl : Ext m H m H := ⟨List.prefix_refl _, fun _ _ h n => ⟨h, n⟩, fun _ _ _ h => h⟩
theorem Ext.trans (a : Ext m H m' H') (b : Ext m' H' m2 H2) : Ext m H m2 H2 :=
  ⟨a.pre.trans b.pre, fun c o h n => let ⟨h1, n1⟩ := a.keep c o h n; b.keep c o h1 n1, fun c o u h => b.frz c o u (a.frz c o u h)⟩
theorem pre_get {n : Nat} {p : Addr} (a : m <+: m') (h : m[n]? = some p) : m'[n]? = some p := by
  obtain ⟨r, rfl⟩ := a
  have hl : n < m.length := (List.getElem?_eq_some_iff.mp h).1
  rw [List.getElem?_append_left hl]
  exact h
theorem rd_keep {p : Addr} {u : HO} (x : Ext m H m' H') (h : p ∉ m ∧ Rd H p u) : p ∉ m' ∧ Rd H' p u := by
  obtain ⟨n, h | ⟨o, h⟩⟩ := h
  · obtain ⟨h1, n1⟩ := x.keep _ _ h n
    exact ⟨n1, .inl h1⟩
  · obtain ⟨h1, n1⟩ := x.keep _ _ h n
    exact ⟨n1, .inr ⟨o, h1⟩⟩
theorem FzL.mono {p : Addr} {vs : List V} (x : Ext m H m' H') (h : FzL m H p vs) : FzL m' H' p vs := rd_keep x h
theorem FzT.mono {K : PySem.W.Frag} {p : Addr} {vs : List V} (x : Ext m H m' H') (h : FzT K m H p vs) : FzT K m' H' p vs := h.imp (rd_keep x) id
theorem FzO.mono {p C : Addr} {fs : List (Str × V)} (x : Ext m H m' H') (h : FzO m H p C fs) : FzO m' H' p C fs := by
  obtain ⟨n, dx, h⟩ := h
  obtain ⟨h1, n1⟩ := x.keep _ _ h n
  exact ⟨n1, dx, h1⟩
mutual
theorem Rep.mono (x : Ext m H m' H') : ∀ (d : D) (v : V), Rep G m H d v → Rep G m' H' d v
  | .non, _, h => by simp only [Rep] at h ⊢; exact h
  | .bl _, _, h => by simp only [Rep] at h ⊢; exact h
  | .int _, _, h => by simp only [Rep] at h ⊢; exact h
  | .str _, _, h => by simp only [Rep] at h ⊢; exact h
  | .tup l, _, h => by
    simp only [Rep] at h ⊢
    obtain ⟨p, vs, e, f, r⟩ := h
    exact ⟨p, vs, e, f.mono x, RepL.mono x l vs r⟩
  | .lst l, _, h => by
    simp only [Rep] at h ⊢
    obtain ⟨p, vs, e, f, r⟩ := h
    exact ⟨p, vs, e, f.mono x, RepL.mono x l vs r⟩
  | .ref n, _, h => by
    simp only [Rep] at h ⊢
    obtain ⟨p, e, r⟩ := h
    exact ⟨p, e, pre_get x.pre r⟩
  | .obj c l, _, h => by
    simp only [Rep] at h ⊢
    obtain ⟨p, vs, e, f, r⟩ := h
    exact ⟨p, vs, e, f.mono x, RepL.mono x l vs r⟩
theorem RepL.mono (x : Ext m H m' H') : ∀ (l : List D) (vs : List V), RepL G m H l vs → RepL G m' H' l vs
  | [], _, h => by simp only [RepL] at h ⊢; exact h
  | d :: l, _, h => by
    simp only [RepL] at h ⊢
    obtain ⟨v, r, e, h1, h2⟩ := h
    exact ⟨v, r, e, Rep.mono x d v h1, RepL.mono x l r h2⟩
end
theorem RE.mono (x : Ext m H m' H') (h : RE G m H ρ σ) : RE G m' H' ρ σ :=
  ⟨h.len, fun i d e => let ⟨v, e1, r⟩ := h.at_ i d e; ⟨v, e1, Rep.mono x d v r⟩⟩
theorem RepL.length : ∀ {l : List D} {vs : List V}, RepL G m H l vs → l.length = vs.length
  | [], _, h => by simp only [RepL] at h; subst h; rfl
  | d :: l, _, h => by
    simp only [RepL] at h
    obtain ⟨v, r, rfl, _, h2⟩ := h
    simp [RepL.length h2]
theorem RepL.get : ∀ {l : List D} {vs : List V} {i : Nat} {d : D}, RepL G m H l vs → l[i]? = some d → ∃ v, vs[i]? = some v ∧ Rep G m H d v
  | [], _, _, _, _, e => by simp at e
  | d :: l, _, 0, _, h, e => by
    simp only [RepL] at h
    obtain ⟨v, r, rfl, h1, _⟩ := h
    simp at e; subst e
    exact ⟨v, rfl, h1⟩
  | d :: l, _, i + 1, _, h, e => by
    simp only [RepL] at h
    obtain ⟨v, r, rfl, _, h2⟩ := h
    simp at e
    obtain ⟨u, e1, q⟩ := RepL.get h2 e
    exact ⟨u, by simpa using e1, q⟩
theorem RepL.nil : RepL G m H [] [] := by simp only [RepL]
theorem RepL.cons {d : D} {l : List D} {v : V} {vs : List V} (h : Rep G m H d v) (r : RepL G m H l vs) : RepL G m H (d :: l) (v :: vs) := by
  simp only [RepL]; exact ⟨v, vs, rfl, h, r⟩
theorem RepL.append : ∀ {l k : List D} {vs us : List V}, RepL G m H l vs → RepL G m H k us → RepL G m H (l ++ k) (vs ++ us)
  | [], _, _, _, h, q => by simp only [RepL] at h; subst h; exact q
  | d :: l, _, _, _, h, q => by
    simp only [RepL] at h
    obtain ⟨v, r, rfl, h1, h2⟩ := h
    exact RepL.cons h1 (RepL.append h2 q)
theorem RepL.take : ∀ {l : List D} {vs : List V} (n : Nat), RepL G m H l vs → RepL G m H (l.take n) (vs.take n)
  | _, _, 0, _ => RepL.nil
  | [], _, n + 1, h => by simp only [RepL] at h; subst h; exact RepL.nil
  | d :: l, _, n + 1, h => by
    simp only [RepL] at h
    obtain ⟨v, r, rfl, h1, h2⟩ := h
    exact RepL.cons h1 (RepL.take n h2)
theorem RepL.drop : ∀ {l : List D} {vs : List V} (n : Nat), RepL G m H l vs → RepL G m H (l.drop n) (vs.drop n)
  | _, _, 0, h => h
  | [], _, n + 1, h => by simp only [RepL] at h; subst h; exact RepL.nil
  | d :: l, _, n + 1, h => by
    simp only [RepL] at h
    obtain ⟨v, r, rfl, h1, h2⟩ := h
    exact RepL.drop n h2
theorem RepL.set {d : D} {v : V} (q : Rep G m H d v) : ∀ {l : List D} {vs : List V} (n : Nat), RepL G m H l vs → RepL G m H (l.set n d) (vs.set n v)
  | [], _, _, h => by simp only [RepL] at h; subst h; exact RepL.nil
  | e :: l, _, 0, h => by
    simp only [RepL] at h
    obtain ⟨u, r, rfl, h1, h2⟩ := h
    exact RepL.cons q h2
  | e :: l, _, n + 1, h => by
    simp only [RepL] at h
    obtain ⟨u, r, rfl, h1, h2⟩ := h
    exact RepL.cons h1 (RepL.set q n h2)
theorem RepL.reverse : ∀ {l : List D} {vs : List V}, RepL G m H l vs → RepL G m H l.reverse vs.reverse
  | [], _, h => by simp only [RepL] at h; subst h; exact RepL.nil
  | d :: l, _, h => by
    simp only [RepL] at h
    obtain ⟨v, r, rfl, h1, h2⟩ := h
    rw [List.reverse_cons, List.reverse_cons]
    exact RepL.append (RepL.reverse h2) (RepL.cons h1 RepL.nil)
theorem RepL.dropLast {l : List D} {vs : List V} (h : RepL G m H l vs) : RepL G m H l.dropLast vs.dropLast := by
  rw [List.dropLast_eq_take, List.dropLast_eq_take, ← h.length]
  exact RepL.take _ h
theorem RepL.cut {l : List D} {vs : List V} (lo hi : Option Int) (h : RepL G m H l vs) : RepL G m H (cut l lo hi) (cutV vs lo hi) := by
  have e : ∀ n d o, sIx n d o = HT.sIx n d o := fun n d o => by cases o <;> rfl
  unfold Ev.cut cutV
  rw [h.length]
  simp only [e]
  exact RepL.take _ (RepL.drop _ h)
/-! what may be read -/
theorem sq_of {K : PySem.W.Frag} {p : Addr} {vs : List V} (h : Rd H p (.lst vs)) : SqL K H p vs := .inl h
theorem FzT.sq {K : PySem.W.Frag} {p : Addr} {vs : List V} (h : FzT K m H p vs) : SqT K H p vs := h.imp (·.2) id
theorem Rep.int_inv {i : Int} {v : V} (h : Rep G m H (.int i) v) : v = .int i := by simpa only [Rep] using h
theorem Rep.bl_inv {b : Bool} {v : V} (h : Rep G m H (.bl b) v) : v = .bl b := by simpa only [Rep] using h
theorem Rep.non_inv {v : V} (h : Rep G m H .non v) : v = .non := by simpa only [Rep] using h
theorem Rep.str_inv {s : List Nat} {v : V} (h : Rep G m H (.str s) v) : v = .str ⟨s.toArray⟩ := by simpa only [Rep] using h
theorem Rep.tup_inv {l : List D} {v : V} (h : Rep G m H (.tup l) v) : ∃ p vs, v = .ref p ∧ FzT G.K m H p vs ∧ RepL G m H l vs := by simpa only [Rep] using h
theorem Rep.lst_inv {l : List D} {v : V} (h : Rep G m H (.lst l) v) : ∃ p vs, v = .ref p ∧ FzL m H p vs ∧ RepL G m H l vs := by simpa only [Rep] using h
theorem Rep.ref_inv {n : Nat} {v : V} (h : Rep G m H (.ref n) v) : ∃ p, v = .ref p ∧ m[n]? = some p := by simpa only [Rep] using h
theorem Rep.obj_inv {c : Nat} {l : List D} {v : V} (h : Rep G m H (.obj c l) v) : ∃ p vs, v = .ref p ∧ FzO m H p (G.ca c) ((namesOf G c).zip vs) ∧ RepL G m H l vs := by simpa only [Rep] using h
theorem rep_int {i : Int} : Rep G m H (.int i) (.int i) := by simp only [Rep]
theorem rep_bl {b : Bool} : Rep G m H (.bl b) (.bl b) := by simp only [Rep]
theorem rep_non : Rep G m H .non .non := by simp only [Rep]
theorem rep_str {s : List Nat} : Rep G m H (.str s) (.str ⟨s.toArray⟩) := by simp only [Rep]
theorem rep_tup {l : List D} {p : Addr} {vs : List V} (f : FzT G.K m H p vs) (r : RepL G m H l vs) : Rep G m H (.tup l) (.ref p) := by
  simp only [Rep]; exact ⟨p, vs, rfl, f, r⟩
theorem rep_lst {l : List D} {p : Addr} {vs : List V} (f : FzL m H p vs) (r : RepL G m H l vs) : Rep G m H (.lst l) (.ref p) := by
  simp only [Rep]; exact ⟨p, vs, rfl, f, r⟩
theorem rep_ref {n : Nat} {p : Addr} (h : m[n]? = some p) : Rep G m H (.ref n) (.ref p) := by
  simp only [Rep]; exact ⟨p, rfl, h⟩
theorem rep_obj {c : Nat} {l : List D} {p : Addr} {vs : List V} (f : FzO m H p (G.ca c) ((namesOf G c).zip vs)) (r : RepL G m H l vs) : Rep G m H (.obj c l) (.ref p) := by
  simp only [Rep]; exact ⟨p, vs, rfl, f, r⟩
/-- a list, frozen or a cell's, is to be read -/
theorem lstOf_sq {d : D} {v : V} {l : List D} (rs : RS G m H S) (h : Rep G m H d v) (e : lstOf d S = some l) : ∃ p vs, v = .ref p ∧ Rd H p (.lst vs) ∧ RepL G m H l vs := by
  unfold lstOf at e
  split at e
  · cases e
    obtain ⟨p, vs, rfl, f, r⟩ := h.lst_inv
    exact ⟨p, vs, rfl, f.2, r⟩
  · rename_i n
    split at e
    · rename_i l' q
      cases e
      obtain ⟨p, rfl, hp⟩ := h.ref_inv
      obtain ⟨p', hp', vs, hv, r⟩ := rs.cel _ _ q
      rw [hp] at hp'; cases hp'
      exact ⟨p, vs, rfl, .inl hv, r⟩
    · cases e
  · cases e
theorem seqOf_sq {d : D} {v : V} {l : List D} (rs : RS G m H S) (h : Rep G m H d v) (e : seqOf d S = some l) : ∃ p vs, v = .ref p ∧ (Rd H p (.lst vs) ∨ SqT G.K H p vs) ∧ RepL G m H l vs := by
  unfold seqOf at e
  split at e
  · cases e
    obtain ⟨p, vs, rfl, f, r⟩ := h.tup_inv
    exact ⟨p, vs, rfl, .inr f.sq, r⟩
  · cases e
    obtain ⟨p, vs, rfl, f, r⟩ := h.lst_inv
    exact ⟨p, vs, rfl, .inl f.2, r⟩
  · rename_i n
    split at e
    · rename_i l' q
      cases e
      obtain ⟨p, rfl, hp⟩ := h.ref_inv
      obtain ⟨p', hp', vs, hv, r⟩ := rs.cel _ _ q
      rw [hp] at hp'; cases hp'
      exact ⟨p, vs, rfl, .inl (.inl hv), r⟩
    · cases e
  · cases e
theorem RS.mono_of (rs : RS G m H S) (x : Ext m H m H') (k : ∀ p ∈ m, H' p = H p) : RS G m H' S :=
  ⟨rs.len, rs.nd, fun n c e => by
    obtain ⟨p, hp, q⟩ := rs.cel n c e
    have hk := k p (List.mem_of_getElem? hp)
    refine ⟨p, hp, ?_⟩
    cases c with
    | lst l =>
      obtain ⟨vs, h1, r⟩ := q
      exact ⟨vs, by rw [hk]; exact h1, RepL.mono x _ _ r⟩
    | ins c fs =>
      obtain ⟨dx, vs, h1, r⟩ := q
      exact ⟨dx, vs, by rw [hk]; exact h1, RepL.mono x _ _ r⟩
    | dct lk kvs =>
      obtain ⟨vs, h1, r⟩ := q
      exact ⟨vs, h1.at' hk, RepL.mono x _ _ r⟩⟩
/-- something new is laid that is no cell -/
theorem Ext.new {p : Addr} {o : HO} (n : H p = none) : Ext m H m (upd H p o) :=
  ⟨List.prefix_refl _, fun a u h na => ⟨by rw [upd_ne (ne_of_none h n)]; exact h, na⟩, fun a o u h => by rw [upd_ne (ne_of_none h n)]; exact h⟩
theorem RS.there (rs : RS G m H S) {p : Addr} (h : p ∈ m) : ∃ o, H p = some o := by
  obtain ⟨n, hn, e⟩ := List.getElem_of_mem h
  have hS : n < S.length := by rw [← rs.len]; exact hn
  obtain ⟨p', hp', q⟩ := rs.cel n S[n] (List.getElem?_eq_getElem hS)
  have e2 : p' = p := by
    rw [List.getElem?_eq_getElem hn] at hp'
    exact (Option.some.inj hp').symm.trans e
  subst e2
  cases hc : S[n] with
  | lst l =>
    rw [hc] at q
    obtain ⟨vs, h1, _⟩ := q
    exact ⟨_, h1⟩
  | ins c fs =>
    rw [hc] at q
    obtain ⟨dx, vs, h1, _⟩ := q
    exact ⟨_, h1⟩
  | dct lk kvs =>
    rw [hc] at q
    obtain ⟨vs, h1, _⟩ := q
    exact h1.there
theorem RS.fresh (rs : RS G m H S) {p : Addr} (n : H p = none) : p ∉ m := fun h => by
  obtain ⟨o, e⟩ := rs.there h
  rw [n] at e; cases e
theorem RS.new {p : Addr} {o : HO} (rs : RS G m H S) (n : H p = none) : RS G m (upd H p o) S :=
  rs.mono_of (Ext.new n) fun q hq => upd_ne fun e => by subst e; exact rs.fresh n hq
/-- a new cell -/
theorem Ext.cell {p : Addr} {o : HO} (n : H p = none) : Ext m H (m ++ [p]) (upd H p o) :=
  ⟨List.prefix_append _ _, fun a u h na => ⟨by rw [upd_ne (ne_of_none h n)]; exact h, by
    rw [List.mem_append, List.mem_singleton]
    rintro (z | z)
    · exact na z
    · exact ne_of_none h n z⟩, fun a o u h => by rw [upd_ne (ne_of_none h n)]; exact h⟩
theorem Rep.wider {d : D} {v : V} (x : Ext m H m' H') (h : Rep G m H d v) : Rep G m' H' d v := Rep.mono x d v h
theorem RepC.mono {c : Cell} {p : Addr} (x : Ext m H m' H') (hk : H' p = H p) (h : RepC G m H c p) : RepC G m' H' c p := by
  cases c with
  | lst l =>
    obtain ⟨vs, h1, r⟩ := h
    exact ⟨vs, by rw [hk]; exact h1, RepL.mono x _ _ r⟩
  | ins c fs =>
    obtain ⟨dx, vs, h1, r⟩ := h
    exact ⟨dx, vs, by rw [hk]; exact h1, RepL.mono x _ _ r⟩
  | dct lk kvs =>
    obtain ⟨vs, h1, r⟩ := h
    exact ⟨vs, h1.at' hk, RepL.mono x _ _ r⟩
theorem RS.cell {p : Addr} {o : HO} {c : Cell} (rs : RS G m H S) (n : H p = none) (h : RepC G (m ++ [p]) (upd H p o) c p) : RS G (m ++ [p]) (upd H p o) (S ++ [c]) := by
  have hp := rs.fresh n
  refine ⟨by simp [rs.len], ?_, fun k c' e => ?_⟩
  · rw [List.nodup_append]
    refine ⟨rs.nd, by simp, fun a ha b hb => ?_⟩
    rw [List.mem_singleton] at hb
    subst hb
    exact fun e => hp (e ▸ ha)
  · by_cases hk : k < S.length
    · rw [List.getElem?_append_left hk] at e
      obtain ⟨q, hq, r⟩ := rs.cel k c' e
      refine ⟨q, by rw [List.getElem?_append_left (by rw [rs.len]; exact hk)]; exact hq, RepC.mono (Ext.cell n) (upd_ne fun z => ?_) r⟩
      subst z
      exact hp (List.mem_of_getElem? hq)
    · have e1 : k = S.length := by
        have := (List.getElem?_eq_some_iff.mp e).1
        simp at this
        omega
      subst e1
      simp at e
      subst e
      exact ⟨p, by rw [← rs.len]; simp, h⟩
/-- a cell is written -/
theorem Ext.write {p : Addr} {o : HO} (h : p ∈ m) (nf : NF H p) : Ext m H m (upd H p o) :=
  ⟨List.prefix_refl _, fun a u e na => ⟨by rw [upd_ne (show a ≠ p from fun z => na (by rw [z]; exact h))]; exact e, na⟩, fun a o u e => by rw [upd_ne (show a ≠ p from fun z => nf o u (by rw [← z]; exact e))]; exact e⟩
theorem NF.of {p : Addr} {u : HO} (h : H p = some u) (n : ∀ o v, u ≠ .frz o v) : NF H p := fun o v e => n o v (Option.some.inj (h.symm.trans e))
theorem RS.write {p : Addr} {o : HO} {n : Nat} {c : Cell} (rs : RS G m H S) (nf : NF H p) (hp : m[n]? = some p) (h : RepC G m (upd H p o) c p) : RS G m (upd H p o) (S.set n c) := by
  have hm : p ∈ m := List.mem_of_getElem? hp
  refine ⟨by simp [rs.len], rs.nd, fun k c' e => ?_⟩
  by_cases hk : k = n
  · subst hk
    have hl : k < S.length := by rw [← rs.len]; exact (List.getElem?_eq_some_iff.mp hp).1
    rw [List.getElem?_set_self hl] at e
    cases e
    exact ⟨p, hp, h⟩
  · rw [List.getElem?_set_ne (Ne.symm hk)] at e
    obtain ⟨q, hq, r⟩ := rs.cel k c' e
    refine ⟨q, hq, RepC.mono (Ext.write hm nf) (upd_ne fun z => hk ?_) r⟩
    subst z
    have h1 := (List.getElem?_eq_some_iff.mp hq)
    have h2 := (List.getElem?_eq_some_iff.mp hp)
    obtain ⟨l1, e1⟩ := h1
    obtain ⟨l2, e2⟩ := h2
    exact (List.getElem_inj rs.nd).mp (e1.trans e2.symm)
theorem RE.set {i : Nat} {d : D} {v : V} (h : RE G m H ρ σ) (r : Rep G m H d v) : RE G m H (setS ρ i d) (σ.set i (some v)) := by
  refine ⟨by simp [setS, h.len], fun j e hj => ?_⟩
  unfold setS at hj
  by_cases hij : j = i
  · subst hij
    have hl : j < ρ.length := by
      have := (List.getElem?_eq_some_iff.mp hj).1
      simpa using this
    rw [List.getElem?_set_self hl] at hj
    cases hj
    exact ⟨v, by rw [List.getElem?_set_self (by rw [← h.len]; exact hl)], r⟩
  · rw [List.getElem?_set_ne (Ne.symm hij)] at hj
    obtain ⟨u, e1, r1⟩ := h.at_ j e hj
    exact ⟨u, by rw [List.getElem?_set_ne (Ne.symm hij)]; exact e1, r1⟩
theorem RE.gone {i : Nat} (h : RE G m H ρ σ) (o : Option V) : RE G m H (ρ.set i none) (σ.set i o) := by
  refine ⟨by simp [h.len], fun j e hj => ?_⟩
  by_cases hij : j = i
  · subst hij
    have hl : j < ρ.length := by
      have := (List.getElem?_eq_some_iff.mp hj).1
      simpa using this
    rw [List.getElem?_set_self hl] at hj
    cases hj
  · rw [List.getElem?_set_ne (Ne.symm hij)] at hj
    obtain ⟨u, e1, r1⟩ := h.at_ j e hj
    exact ⟨u, by rw [List.getElem?_set_ne (Ne.symm hij)]; exact e1, r1⟩
theorem RE.wipe : ∀ (is : List Nat), RE G m H ρ σ → RE G m H (Ev.wipe ρ is) (L2.wipe σ is)
  | [], h => h
  | i :: is, h => (RE.wipe is h).gone none
end
end Ev
end
section
set_option maxRecDepth 100000
set_option maxHeartbeats 4000000
/-! Ev, part 4: operations on values. -/
namespace Ev
open PySem PySem.Spec PyProof.Rows L2
/-- what is wanted of a result that raises nothing -/
def FinV (G : Pg) {α β : Type} (R : List Addr → Hp → α → β → Prop) (m : List Addr) (H : Hp) (r : Rs α) (Q : β → Hp → Prop) : Prop := match r with
  | .ok a S' => ∀ m' H' v, Ext m H m' H' → RS G m' H' S' → R m' H' a v → Q v H'
  | _ => False
/-- an exception's dict -/
def XRep (G : Pg) (m : List Addr) (H : Hp) (c : Nat) (l : List D) (dx : Addr) : Prop :=
  ∃ vs, H dx = some (.xd (((excF G.T c).map G.att).zip vs)) ∧ RepL G m H l vs ∧ l.length = (excF G.T c).length ∧ c < G.T.exc.length
/-- .. of any result -/
def Fin (G : Pg) (W : WX) (σ : L2.St) {α β : Type} (R : List Addr → Hp → α → β → Prop) (m : List Addr) (H : Hp) (r : Rs α) (K : α → Store → List Addr → Hp → β → Prop) : Prop := match r with
  | .ok a S' => ∀ m' H' v, Ext m H m' H' → RS G m' H' S' → R m' H' a v → K a S' m' H' v
  | .ex c l S' => ∀ m' H' dx, Ext m H m' H' → RS G m' H' S' → XRep G m' H' c l dx → W (.ref (G.xa c)) (some dx) σ H'
  | .bad => False
section
variable {G : Pg} {W : WX} {σ : L2.St} {m m' : List Addr} {H H' : Hp} {S : Store}
theorem Fin.ext {α β : Type} {R : List Addr → Hp → α → β → Prop} {r : Rs α} {K : α → Store → List Addr → Hp → β → Prop} (x : Ext m H m' H') (h : Fin G W σ R m H r K) : Fin G W σ R m' H' r K := by
  cases r with
  | ok a S' => exact fun m2 H2 v x2 => h m2 H2 v (x.trans x2)
  | ex c l S' => exact fun m2 H2 dx x2 => h m2 H2 dx (x.trans x2)
  | bad => exact h
theorem Fin.th {α β γ δ : Type} {R : List Addr → Hp → α → β → Prop} {R' : List Addr → Hp → γ → δ → Prop} {r : Rs α} {k : α → Store → Rs γ} {t : Tag k} {K : γ → Store → List Addr → Hp → δ → Prop}
    (h : Fin G W σ R' m H (r.th k t) K) : Fin G W σ R m H r fun a S' m' H' _ => Fin G W σ R' m' H' (k a S') K := by
  cases r with
  | ok a S' => exact fun m' H' v x _ _ => Fin.ext x h
  | ex c l S' => exact h
  | bad => exact h
theorem Fin.imp {α β : Type} {R : List Addr → Hp → α → β → Prop} {r : Rs α} {K K' : α → Store → List Addr → Hp → β → Prop} (h : Fin G W σ R m H r K) (k : ∀ a S' m' H' v, Ext m H m' H' → RS G m' H' S' → R m' H' a v → K a S' m' H' v → K' a S' m' H' v) : Fin G W σ R m H r K' := by
  cases r with
  | ok a S' => exact fun m' H' v x rs q => k a S' m' H' v x rs q (h m' H' v x rs q)
  | ex c l S' => exact h
  | bad => exact h
/-- a result that is no exception -/
def NoEx {α : Type} (r : Rs α) : Prop := ∀ c l S, r ≠ .ex c l S
theorem Fin.toV {α β : Type} {R : List Addr → Hp → α → β → Prop} {r : Rs α} {Q : β → Hp → Prop} (n : NoEx r) (h : Fin G W σ R m H r fun _ _ _ H' v => Q v H') : FinV G R m H r Q := by
  cases r with
  | ok a S' => exact h
  | ex c l S' => exact absurd rfl (n c l S')
  | bad => exact h
theorem noEx_mkL (b : Bool) (l : List D) (S : Store) : NoEx (mkL b l S) := by
  intro c k S'; unfold mkL; cases b <;> simp
theorem noEx_ofO {α : Type} (o : Option α) (S : Store) : NoEx (ofO o S) := by
  intro c k S'; unfold ofO; cases o <;> simp
theorem noEx_bin (op : Op) (b : Bool) (d e : D) (S : Store) : NoEx (binD op b d e S) := by
  intro c k S' h
  unfold binD at h
  repeat' split at h
  all_goals first
    | (cases h; done)
    | exact noEx_mkL _ _ _ _ _ _ h
theorem fin_mk {b : Bool} {l : List D} {vs : List V} {p : Addr} {Q : VK} (rs : RS G m H S) (r : RepL G m H l vs) (n : H p = none) (h : FinV G (Rep G) m H (mkL b l S) Q) : Q (.ref p) (upd H p (.lst vs)) := by
  cases b with
  | false => exact h m _ _ (Ext.new n) (rs.new n) (rep_lst ⟨rs.fresh n, .inl upd_same⟩ (RepL.mono (Ext.new n) _ _ r))
  | true => exact h (m ++ [p]) _ _ (Ext.cell n) (rs.cell n ⟨vs, upd_same, RepL.mono (Ext.cell n) _ _ r⟩) (rep_ref (by rw [← rs.len]; simp))
theorem fin_tup {l : List D} {vs : List V} {p : Addr} {Q : VK} (rs : RS G m H S) (r : RepL G m H l vs) (n : H p = none) (h : FinV G (Rep G) m H (.ok (.tup l) S) Q) : Q (.ref p) (upd H p (.tup vs)) :=
  h m _ _ (Ext.new n) (rs.new n) (rep_tup (.inl ⟨rs.fresh n, .inl upd_same⟩) (RepL.mono (Ext.new n) _ _ r))
theorem fin_same {α β : Type} {R : List Addr → Hp → α → β → Prop} {a : α} {v : β} {Q : β → Hp → Prop} (rs : RS G m H S) (r : R m H a v) (h : FinV G R m H (.ok a S) Q) : Q v H := h m H v Ext.refl rs r
end
theorem lim : LIM = sizeLine := by rw [sizeLine_eq]; rfl
/-- an operation on two values -/
def rBin (G : Pg) (op : Op) (b : Bool) : R2 := fun x y H Q => ∃ m S d e, RS G m H S ∧ Rep G m H d x ∧ Rep G m H e y ∧ FinV G (Rep G) m H (binD op b d e S) Q
section
variable {G : Pg} {X : Cx}
theorem rd_lst {pins : List (Addr × Obj)} {σ : L2.St} {H : Hp} {s : Shared} {l : Addr} {xs : List V} (I : Inv X pins σ H s) (hH : Rd H l (.lst xs)) :
    xs.length ≤ sizeLine ∧ ∃ (its : List Value) (n : Nat), Vals xs its ∧ xs.length = its.length ∧ s.heap.get? l = some { cls := .type "list", data := .seq its.toArray n } := by
  have q : ObjOk X.prog X.w H s.heap l (.lst xs) := hH.ok I.hok
  obtain ⟨z, its, n, r, e⟩ := q
  exact ⟨z, its, n, r, r.length, e⟩
/-- list + list -/
theorem op_catR : OpR X (binaryOp .Add) (fun x y H Q => ∃ l b xs zs, x = .ref l ∧ y = .ref b ∧ Rd H l (.lst xs) ∧ Rd H b (.lst zs) ∧ xs.length + zs.length ≤ sizeLine ∧ ∀ p, H p = none → Q (.ref p) (upd H p (.lst (xs ++ zs)))) := by
  intro pins s σ H x y v u Q I rx ry h
  obtain ⟨l, b, xs, zs, rfl, rfl, hl, hb, hz, q⟩ := h
  cases rx
  cases ry
  obtain ⟨_, its, n, r, e1, e⟩ := rd_lst I hl
  obtain ⟨_, its2, n2, r2, e3, e4⟩ := rd_lst I hb
  have hs : its.toArray.size + its2.toArray.size ≤ sizeLine := by simp only [List.size_toArray]; omega
  refine PySem.P.add_list e e4 ?_ hs
  rw [show its.toArray ++ its2.toArray = (its ++ its2).toArray by simp]
  have hn : H s.heap.objs.size = none := I.hok.fresh (Nat.le_refl _)
  exact ⟨.ref _, _, Inv.lnew (t' := s.toks) I (r.append r2) (by simp only [List.length_append]; omega), rfl, q _ hn⟩
theorem wd_log {k : Nat} (h : k < Wd) : k.log2 < 4001 := by
  unfold Wd at h
  by_cases z : k = 0
  · subst z; decide
  · have := (Nat.log2_lt z).mpr h
    omega
theorem op_ar (op : Op) : OpR X (binaryOp op.of) (fun x y H Q => ∃ i j k, x = .int i ∧ y = .int j ∧ arI op i j = some k ∧ Q (.int k) H) := by
  intro pins s σ H x y v u Q I rx ry ⟨i, j, k, ex, ey, ek, q⟩
  cases op with
  | add => cases ek; exact op_add pins s σ H x y v u Q I rx ry ⟨i, j, ex, ey, q⟩
  | sub => cases ek; exact op_sub pins s σ H x y v u Q I rx ry ⟨i, j, ex, ey, q⟩
  | mul =>
    simp only [arI] at ek
    split at ek
    · rename_i hb
      cases ek
      refine op_mulW pins s σ H x y v u Q I rx ry ⟨i, j, ex, ey, ?_, q⟩
      have h1 := wd_log hb.1
      have h2 := wd_log hb.2
      show i.natAbs.log2 + j.natAbs.log2 < 1000000
      omega
    · cases ek
  | div =>
    simp only [arI] at ek
    split at ek
    · rename_i hb
      cases ek
      refine op_fdivW pins s σ H x y v u Q I rx ry ⟨i, j, ex, ey, ⟨hb.1, ?_⟩, q⟩
      have h2 := wd_log hb.2
      omega
    · cases ek
  | mod =>
    simp only [arI] at ek
    split at ek
    · rename_i hb
      cases ek
      exact op_mod pins s σ H x y v u Q I rx ry ⟨i, j, ex, ey, hb, q⟩
    · cases ek
  | pow =>
    simp only [arI] at ek
    split at ek
    · rename_i hb
      cases ek
      exact op_pow pins s σ H x y v u Q I rx ry ⟨i, j, ex, ey, hb, q⟩
    · cases ek
  | shl =>
    simp only [arI] at ek
    split at ek
    · rename_i hb
      cases ek
      exact op_shl pins s σ H x y v u Q I rx ry ⟨i, j, ex, ey, hb, q⟩
    · cases ek
  | shr =>
    simp only [arI] at ek
    split at ek
    · rename_i hb
      cases ek
      exact op_shr pins s σ H x y v u Q I rx ry ⟨i, j, ex, ey, hb, q⟩
    · cases ek
  | band => cases ek; exact op_and pins s σ H x y v u Q I rx ry ⟨i, j, ex, ey, q⟩
  | bor => cases ek; exact op_or pins s σ H x y v u Q I rx ry ⟨i, j, ex, ey, q⟩
  | bxor => cases ek; exact op_xor pins s σ H x y v u Q I rx ry ⟨i, j, ex, ey, q⟩
/-- t * 1 is t itself -/
theorem mul_one (l : Addr) (items : Array Value) (n : Nat) (dd : Option Addr) (sl : Array (Option Value)) (u : Tok) :
    Meets (Builtin.«tuple.__mul__» ⟨[.ref l, .int 1 u], []⟩) (fun _ R s => s.heap.get? l = some ⟨.type "tuple", dd, .seq items n, sl⟩ ∧ R (.ok (.ret (Value.ref l))) s) :=
  .of_wp fun prog w A R s ⟨g, r⟩ => by
    obtain ⟨a1, a2, a3, a4, a5⟩ := s
    have f1 := AutoSeq1.idx_int
    wp_walk using wpAny_loadPart' g
    exact ⟨_, rfl, r⟩
theorem op_mul1 : OpR X (binaryOp .Mult) (fun x y H Q => ∃ l xs, x = .ref l ∧ y = .int 1 ∧ SqT X.K H l xs ∧ Q (.ref l) H) := by
  intro pins s σ H x y v u Q I rx ry ⟨l, xs, ex, ey, ht, q⟩
  subst ex ey
  cases rx
  obtain ⟨t, rfl⟩ := ry
  obtain ⟨its, r, ⟨⟨cl, dd, dt, sl⟩, ho, hc, n, hd⟩, _⟩ := I.tuple ht
  have hc' : cl = .type "tuple" := hc
  have hd' : dt = .seq its.toArray n := hd
  subst hc' hd'
  have ty : s.TypeIs (.ref l) "tuple" := ⟨_, ho, rfl⟩
  have inner : wpAny (model X.prog X.w) X.A (call (.builtin "tuple.__mul__") [.ref l, .int 1 t]) (EP X pins σ Q) X.xe s :=
    call_meets F.slot_tuple_mul ty F.entry_tuple_mul (F.args_tuple_mul_2 _ _) (mul_one l its.toArray n dd sl t) ⟨ho, ⟨.ref l, H, I, rfl, q⟩⟩
  exact wpAny_binaryOp_repeat_ref (T := "tuple") (U := "int") (by decide) ⟨_, ho, rfl⟩ (fun s' => typeIs_int s' 1 t) noFill_tuple_mul F.fills_int_mul F.slot_int_rmul repeat_tuple F.slot_int_index.lookup
    (call_meets F.slot_int_rmul (typeIs_int s 1 t) F.entry_int_rmul (F.args_int_rmul_2 _ _) (int_rmul_tuple 1 t l its.toArray n dd sl) ⟨ho, rfl, ⟨_, ho, rfl⟩, inner⟩)
theorem RepL.reps {G : Pg} {m : List Addr} {H : Hp} {l : List D} {vs : List V} (r : RepL G m H l vs) : ∀ k : Nat, RepL G m H (List.replicate k l).flatten (List.replicate k vs).flatten
  | 0 => RepL.nil
  | k + 1 => by
    rw [List.replicate_succ, List.replicate_succ, List.flatten_cons, List.flatten_cons]
    exact r.append (RepL.reps r k)
theorem str_app (s t : List Nat) : (⟨s.toArray⟩ : Str) ++ (⟨t.toArray⟩ : Str) = ⟨(s ++ t).toArray⟩ := by
  show (⟨s.toArray ++ t.toArray⟩ : Str) = _
  simp
theorem str_len (s : List Nat) : (⟨s.toArray⟩ : Str).length = s.length := by
  show s.toArray.size = _
  simp
theorem cat_lists (hK : X.K = G.K) {b : Bool} {pins : List (Addr × Obj)} {s : Shared} {σ : L2.St} {H : Hp} {x y : V} {v u : Value} {Q : VK} {m : List Addr} {S : Store} {d e : D} {l k : List D} (I : Inv X pins σ H s) (rx : RelV x v) (ry : RelV y u) (rs : RS G m H S) (rd : Rep G m H d x) (re : Rep G m H e y)
    (e1 : lstOf d S = some l) (e2 : lstOf e S = some k) (hz : l.length + k.length ≤ LIM) (h : FinV G (Rep G) m H (mkL b (l ++ k) S) Q) : wpAny (model X.prog X.w) X.A (binaryOp .Add v u) (EP X pins σ Q) X.xe s := by
  obtain ⟨p, vs, rfl, hp, r⟩ := lstOf_sq rs rd e1
  obtain ⟨q, us, rfl, hq, r2⟩ := lstOf_sq rs re e2
  refine op_catR pins s σ H _ _ v u Q I rx ry ⟨p, q, vs, us, rfl, rfl, hp, hq, ?_, fun a n => fin_mk rs (r.append r2) n h⟩
  rw [← r.length, ← r2.length, ← lim]
  exact hz
theorem cat_any (hK : X.K = G.K) {op : Op} {b : Bool} {pins : List (Addr × Obj)} {s : Shared} {σ : L2.St} {H : Hp} {x y : V} {v u : Value} {Q : VK} {m : List Addr} {S : Store} {d e : D} (I : Inv X pins σ H s) (rx : RelV x v) (ry : RelV y u) (rs : RS G m H S) (rd : Rep G m H d x) (re : Rep G m H e y)
    (h : FinV G (Rep G) m H (match op, lstOf d S, lstOf e S with
    | .add, some s, some t => if s.length + t.length ≤ LIM then mkL b (s ++ t) S else .bad
    | _, _, _ => .bad) Q) : wpAny (model X.prog X.w) X.A (binaryOp op.of v u) (EP X pins σ Q) X.xe s := by
  split at h
  · rename_i l k e1 e2
    split at h
    · rename_i hz
      exact cat_lists hK I rx ry rs rd re e1 e2 hz h
    · exact h.elim
  · exact h.elim
theorem op_bin (hK : X.K = G.K) (op : Op) (b : Bool) : OpR X (binaryOp op.of) (rBin G op b) := by
  intro pins s σ H x y v u Q I rx ry ⟨m, S, d, e, rs, rd, re, h⟩
  unfold binD at h
  split at h
  · rename_i i j
    cases ek : arI op i j with
    | none => rw [ek] at h; exact h.elim
    | some k =>
      rw [ek] at h
      exact op_ar op pins s σ H x y v u Q I rx ry ⟨i, j, k, rd.int_inv, re.int_inv, ek, fin_same rs rep_int h⟩
  · rename_i a c
    split at h
    · split at h
      · rename_i hz
        refine op_add_str pins s σ H x y v u Q I rx ry ⟨_, _, rd.str_inv, re.str_inv, ?_, ?_⟩
        · rw [str_len, str_len, ← lim]; exact hz
        · rw [str_app]
          exact fin_same rs rep_str h
      · exact h.elim
    · exact h.elim
  · rename_i a c
    split at h
    · split at h
      · rename_i hz
        obtain ⟨p, vs, rfl, fp, r⟩ := rd.tup_inv
        obtain ⟨q, us, rfl, fq, r2⟩ := re.tup_inv
        refine op_catA pins s σ H _ _ v u Q I rx ry ⟨p, q, vs, us, rfl, rfl, by rw [hK]; exact fp.sq, by rw [hK]; exact fq.sq, ?_, fun e0 => ?_, fun _ e1 => ?_, fun _ _ z n => fin_tup rs (r.append r2) n h⟩
        · rw [← r.length, ← r2.length, ← lim]; exact hz
        · subst e0
          have e3 : a = [] := List.eq_nil_of_length_eq_zero (by rw [r.length]; rfl)
          subst e3
          exact fin_same rs (rep_tup fq r2) h
        · subst e1
          have e3 : c = [] := List.eq_nil_of_length_eq_zero (by rw [r2.length]; rfl)
          subst e3
          exact fin_same rs (rep_tup fp (by rw [List.append_nil]; exact r)) h
      · exact h.elim
    · exact h.elim
  · rename_i a k
    split at h
    · split at h
      · rename_i hz
        obtain ⟨h1, h2, h3, h4⟩ := hz
        obtain ⟨p, vs, rfl, fp, r⟩ := rd.tup_inv
        have ek := re.int_inv
        subst ek
        have hT : SqT X.K H p vs := by rw [hK]; exact fp.sq
        by_cases h5 : k = 1
        · subst h5
          have el : (List.replicate (1 : Int).toNat a).flatten = a := by
            show (List.replicate 1 a).flatten = a
            simp
          rw [el] at h
          exact op_mul1 pins s σ H _ _ v u Q I rx ry ⟨p, vs, rfl, rfl, hT, fin_same rs (rep_tup fp r) h⟩
        · refine op_repT pins s σ H _ _ v u Q I rx ry ⟨p, k, vs, rfl, rfl, hT, fun z => ?_, by omega, h2, by rw [← r.length]; exact h4, fun z n => fin_tup rs (r.reps k.toNat) n h⟩
          rw [r.length, z] at h3
          exact absurd h3 (by decide)
      · exact h.elim
    · exact h.elim
  · exact cat_any hK I rx ry rs rd re h
end
end Ev
end
section
set_option maxRecDepth 100000
set_option maxHeartbeats 4000000
/-! Ev: sorted of tuples of whole numbers, by a list or a tuple. -/
namespace Ev
open PySem PySem.Spec PyProof.Rows L2
theorem lexL_asym : ∀ l r : List Int, lexL l r = true → lexL r l = false
  | [], [], h => by simp [lexL] at h
  | [], _ :: _, _ => rfl
  | _ :: _, [], h => by simp [lexL] at h
  | x :: l, y :: r, h => by
    simp only [lexL] at h ⊢
    by_cases e : x = y
    · rw [if_pos e] at h
      rw [if_pos e.symm]
      exact lexL_asym l r h
    · rw [if_neg e, decide_eq_true_eq] at h
      rw [if_neg (Ne.symm e), decide_eq_false_iff_not]
      omega
theorem lexL_tr : ∀ l r q : List Int, lexL r l = false → lexL q r = false → lexL q l = false
  | [], _, [], _, _ => rfl
  | [], [], _ :: _, _, _ => rfl
  | [], _ :: _, _ :: _, _, _ => rfl
  | _ :: _, [], _, h, _ => by simp [lexL] at h
  | _ :: _, _ :: _, [], _, h => by simp [lexL] at h
  | x :: l, y :: r, z :: q, h1, h2 => by
    simp only [lexL] at h1 h2 ⊢
    by_cases e1 : y = x
    · rw [if_pos e1] at h1
      subst e1
      by_cases e2 : z = y
      · rw [if_pos e2] at h2 ⊢
        exact lexL_tr l r q h1 h2
      · rw [if_neg e2] at h2 ⊢
        exact h2
    · rw [if_neg e1, decide_eq_false_iff_not] at h1
      by_cases e2 : z = y
      · subst e2
        rw [if_neg e1, decide_eq_false_iff_not]
        exact h1
      · rw [if_neg e2, decide_eq_false_iff_not] at h2
        rw [if_neg (by omega), decide_eq_false_iff_not]
        omega
theorem lexL_eq : ∀ l r : List Int, lexL l r = false → lexL r l = false → l = r
  | [], [], _, _ => rfl
  | [], _ :: _, h, _ => by simp [lexL] at h
  | _ :: _, [], _, h => by simp [lexL] at h
  | x :: l, y :: r, h1, h2 => by
    simp only [lexL] at h1 h2
    by_cases e : x = y
    · rw [if_pos e] at h1
      rw [if_pos e.symm] at h2
      rw [e, lexL_eq l r h1 h2]
    · rw [if_neg e, decide_eq_false_iff_not] at h1
      rw [if_neg (Ne.symm e), decide_eq_false_iff_not] at h2
      omega
theorem insT_perm (x : List Int) : ∀ l, (insT x l).Perm (x :: l)
  | [] => List.Perm.refl _
  | y :: r => by
    unfold insT
    split
    · exact List.Perm.refl _
    · exact ((insT_perm x r).cons y).trans (List.Perm.swap x y r)
theorem sortT_perm : ∀ l, (sortT l).Perm l
  | [] => List.Perm.refl _
  | x :: r => (insT_perm x (sortT r)).trans ((sortT_perm r).cons x)
theorem insT_sorted (x : List Int) : ∀ l : List (List Int), l.Pairwise (fun a b => lexL b a = false) → (insT x l).Pairwise (fun a b => lexL b a = false)
  | [], _ => List.pairwise_singleton _ _
  | y :: r, h => by
    obtain ⟨h1, h2⟩ := List.pairwise_cons.mp h
    unfold insT
    split
    · rename_i e
      refine List.pairwise_cons.mpr ⟨fun z hz => ?_, h⟩
      rcases List.mem_cons.mp hz with rfl | hz
      · exact e
      · exact lexL_tr _ _ _ e (h1 z hz)
    · rename_i e
      refine List.pairwise_cons.mpr ⟨fun z hz => ?_, insT_sorted x r h2⟩
      rcases List.mem_cons.mp ((insT_perm x r).mem_iff.mp hz) with rfl | hz
      · exact lexL_asym _ _ (by simpa using e)
      · exact h1 z hz
theorem sortT_sorted : ∀ l, (sortT l).Pairwise (fun a b => lexL b a = false)
  | [] => List.Pairwise.nil
  | x :: r => insT_sorted x _ (sortT_sorted r)
theorem sortT_uniq {l r : List (List Int)} (p : r.Perm l) (s : r.Pairwise (fun a b => lexL b a = false)) : r = sortT l :=
  List.Perm.eq_of_pairwise (fun a b _ _ h1 h2 => lexL_eq a b h2 h1) s (sortT_sorted l) (p.trans (sortT_perm l).symm)
theorem swo_lexL (k : Value → List Int) : SrtO.Swo fun v u => lexL (k v) (k u) := ⟨fun _ _ h => lexL_asym _ _ h, fun _ _ _ h1 h2 => lexL_tr _ _ _ h1 h2⟩
/-- a tuple of ints -/
def IsIT (h : Heap) (v : Value) (l : List Int) : Prop := ∃ a o its n, v = .ref a ∧ h.get? a = some o ∧ o.cls = .type "tuple" ∧ o.data = .seq its n ∧ IntsAre its.toList l
theorem IsIT.keeps {h h' : Heap} {v : Value} {l : List Int} (p : IsIT h v l) (k : ∀ b o, h.get? b = some o → o.cls = .type "tuple" → h'.get? b = some o) : IsIT h' v l := by
  obtain ⟨a, o, its, n, e, ho, hc, hd, hi⟩ := p
  exact ⟨a, o, its, n, e, k a o ho hc, hc, hd, hi⟩
section
variable {prog : Program} {w : World} {A : Around} {E : Value → Shared → Prop} {s : Shared}
theorem lex_kat {fin : Bool} {Q : Bool → Shared → Prop} : ∀ (xs ys : List Value) (l r : List Int) (i : Nat), IntsAre xs l → IntsAre ys r → fin = decide (xs.length < ys.length) → Q (lexL l r) s → PySem.W.KatLex prog w A true fin Q (xs.zip ys) i s
  | [], [], _, _, _, .nil, .nil, hf, h => PySem.W.kat_nil (by subst hf; exact h)
  | [], _ :: _, _, _, _, .nil, .cons _ _ _, hf, h => PySem.W.kat_nil (by subst hf; simpa [lexL] using h)
  | _ :: _, [], _, _, _, .cons _ _ _, .nil, hf, h => PySem.W.kat_nil (by subst hf; simpa [lexL] using h)
  | _ :: xs, _ :: ys, _, _, i, .cons (ns := l) x t hx, .cons (ns := r) y u hy, hf, h => by
    rw [List.zip_cons_cons]
    refine PySem.W.kat_cons (SeqAt.EqAt.int_int x t y u prog w _ _ ?_)
    simp only [lexL] at h
    refine PySem.W.kat_go (fun e => ?_) (fun e => ?_)
    · have ex : x = y := by simpa using e
      rw [if_pos ex] at h
      exact PySem.W.kat_yes (lex_kat xs ys l r (i + 1) hx hy (by rw [hf]; simp) h)
    · have ex : ¬ x = y := by simpa using e
      rw [if_neg ex] at h
      refine PySem.W.kat_no ?_
      cases i with
      | zero => exact oneLt_int h
      | succ i => exact PySem.W.kat_one _ _ (PyProof.Rows.lt_int h)
theorem tup_cmp {vs : List Value} {k : Value → List Int} (hp : ∀ v ∈ vs, IsIT s.heap v (k v)) : SrtO.Cmp prog w A s (tuples' true) (fun p => p.1 ∈ vs) (SrtO.lt2 fun v u => lexL (k v) (k u)) := by
  intro p q hm hm'
  obtain ⟨a, o, its, n, e, ho, hc, hd, hi⟩ := hp _ hm
  obtain ⟨a', o', its', n', e', ho', hc', hd', hi'⟩ := hp _ hm'
  show wpAny (model prog w) A (keyLt' (tuples' true) p.1 q.1) (fun r s' => s' = s ∧ r = lexL (k p.1) (k q.1)) (fun _ _ => False) s
  generalize k p.1 = x at hi ⊢
  generalize k q.1 = y at hi' ⊢
  rw [e, e']
  refine PySem.W.kat_lt ho hd ho' hd' ?_
  exact lex_kat _ _ _ _ 0 hi hi' (by simp) ⟨rfl, rfl⟩
theorem tup_firsts {h : Heap} {k : Value → List Int} : ∀ {vs : List Value}, (∀ v ∈ vs, IsIT h v (k v) ∧ k v ≠ []) → ∃ fs : List Value, PySem.W.KatTups h vs fs ∧ fs.length = vs.length ∧ ∀ f ∈ fs, ∃ x t, f = Value.int x t
  | [], _ => ⟨[], .nil, rfl, fun _ z => absurd z (by simp)⟩
  | v :: vs, hp => by
    obtain ⟨fs, h1, h2, h3⟩ := tup_firsts (vs := vs) fun v' hm => hp v' (List.mem_cons_of_mem _ hm)
    obtain ⟨⟨a, o, its, n, e, ho, hc, hd, hi⟩, hne⟩ := hp v List.mem_cons_self
    obtain ⟨x, t, us, ea⟩ : ∃ x t us, its = ⟨Value.int x t :: us⟩ := by
      cases its with
      | mk us =>
        generalize k v = l at hi hne
        cases hi with
        | nil => exact absurd rfl hne
        | cons x t r => exact ⟨x, t, _, rfl⟩
    subst ea
    refine ⟨.int x t :: fs, ?_, by simp [h2], ?_⟩
    · rw [e]
      exact .cons ho hc hd (by simp) h1
    · intro f hf
      rcases List.mem_cons.mp hf with rfl | hf
      · exact ⟨x, t, rfl⟩
      · exact h3 f hf
theorem tups_sortable {a : Addr} {vs : List Value} {k : Value → List Int} (h0 : 0 < vs.length) (hp : ∀ v ∈ vs, IsIT s.heap v (k v) ∧ k v ≠ []) (ha : ∀ o, s.heap.get? a = some o → o.cls ≠ .type "tuple") : SrtO.SortableO prog w A s a vs fun v u => lexL (k v) (k u) := by
  intro h' keep
  have hp' : ∀ v ∈ vs, IsIT h' v (k v) ∧ k v ≠ [] := fun v hm => ⟨(hp v hm).1.keeps fun b o e c => keep b o (fun z => by subst z; exact ha o e c) e, (hp v hm).2⟩
  obtain ⟨fs, h1, h2, h3⟩ := tup_firsts hp'
  refine ⟨tuples' true, fun Q E hq => ?_, tup_cmp fun v hm => (hp' v hm).1⟩
  refine PySem.W.kat_kind (T := .type "int") h1 (by omega) (fun f hm => ?_) (by rfl) ?_
  · obtain ⟨x, t, rfl⟩ := h3 f hm
    exact PySem.W.Looks.now
  · have e : (Value.type "int" != Value.type "tuple") = true := by first | decide +kernel | rfl | decide
    rw [e]
    exact hq
/-- a list or a tuple is collected -/
theorem collect_lt {l : Addr} {vs : List Value} {T : String} {n : Nat} {o : Obj} {Q : List Value → Shared → Prop} (hT : T = "list" ∨ T = "tuple") (ho : s.heap.get? l = some o) (hc : o.cls = .type T) (hd : o.data = .seq vs.toArray n)
    (h : Q vs { s with heap := (s.heap.push (seqObj "list" #[] 0)).update s.heap.objs.size (Obj.mapSeq (· ++ vs.toArray)) }) (hsz : vs.length ≤ sizeLine) :
    wpAny (model prog w) A (collect (.ref l)) Q E s := by
  unfold collect
  refine wpAny_bind (wpAny_runValue (codeAny_builtin entry_proto_collect' ?_))
  show wpAny _ _ (do again (.builtin "list.__iadd__" ⟨[← newList [], .ref l], []⟩)) _ _ s
  refine wpAny_bind (wpAny_newList (wpAny_pure ⟨Code.quiet_builtin _ (by decide +kernel), codeAny_builtin entry_list_iadd' ?_⟩))
  show wpAny _ _ (Builtin.List.listExtendWith (.ref s.heap.objs.size) (.ref l) (.ref s.heap.objs.size)) _ _ { s with heap := s.heap.push (seqObj "list" #[] 0) }
  unfold Builtin.List.listExtendWith
  have ho' : (s.heap.push (seqObj "list" #[] 0)).get? l = some o := Heap.get?_push_of_some _ ho
  refine wpAny_bind (wpAny_typeOf (T := T) ⟨o, ho', hc⟩ ?_)
  have ht : (Builtin.List.listSameRef (.ref s.heap.objs.size) (.ref l) || Value.type T == Value.type "list" || Value.type T == Value.type "tuple") = true := by
    rcases hT with rfl | rfl
    · rw [show (Value.type "list" == Value.type "list") = true by rfl]; simp
    · rw [show (Value.type "tuple" == Value.type "tuple") = true by rfl]; simp
  rw [if_pos ht]
  refine wpAny_bind (listItems_at ho' hd ?_); refine wpAny_bind (listItems_at (xs := #[]) (n := 0) (Heap.get?_push_size _ rfl) rfl ?_)
  rw [if_neg (by simp)]
  refine wpAny_bind (listUpdate_at (xs := #[]) (n := 0) (Heap.get?_push_size _ rfl) rfl ?_ (Nat.zero_le _) (by show (#[] ++ vs.toArray).size ≤ sizeLine + 1; simp only [Array.size_append, List.size_toArray, List.length_nil]; omega)); refine wpAny_pure ?_
  show wpAny (model prog w) A (do
      let o ← load s.heap.objs.size
      match o.data with
      | .seq xs _ => pure xs.toList
      | _ => unsupported "internal:collect") Q E { s with heap := (s.heap.push (seqObj "list" #[] 0)).update s.heap.objs.size (Obj.mapSeq (· ++ vs.toArray)) }
  refine wpAny_bind (wpAny_load (get?_update_seq (Heap.get?_push_size _ rfl) _) ?_)
  show wpAny _ _ (pure ((#[] : Array Value) ++ vs.toArray).toList) Q E _
  rw [show ((#[] : Array Value) ++ vs.toArray).toList = vs by simp]
  exact wpAny_pure h
/-- sorted(x), x a list or a tuple: a new list -/
theorem sorted_seqO {l : Addr} {vs : List Value} {T : String} {n : Nat} {o : Obj} {ltv : Value → Value → Bool} {Q : Value → Shared → Prop} (O : SrtO.Swo ltv) (hT : T = "list" ∨ T = "tuple") (ho : s.heap.get? l = some o) (hc : o.cls = .type T) (hd : o.data = .seq vs.toArray n) (hz : vs.length ≤ sizeLine)
    (hS : 2 ≤ vs.length → ∀ (h₁ : Heap) (a : Addr), h₁.get? a = some (seqObj "list" vs.toArray 0) → (∀ b o, s.heap.get? b = some o → b ≠ a ∧ h₁.get? b = some o) → SrtO.SortableO prog w A.in1.in1 { s with heap := h₁ } a vs ltv)
    (h : ∀ (h' : Heap) (d : Addr) (out : List Value), SrtO.Srtd ltv out → SrtO.Stb ltv out vs → (∀ b o, s.heap.get? b = some o → h'.get? b = some o) → s.heap.objs.size ≤ d → (∃ n, h'.get? d = some (seqObj "list" out.toArray n)) → Q (.ref d) { s with heap := h' }) :
    wpAny (model prog w) A (call (.builtin "sorted") [.ref l]) Q E s := by
  refine Calls.call_function_entry kind_sorted plain_sorted entry_sorted (args_sorted1 _) ?_
  unfold Builtin.«sorted»
  refine wpAny_bind (m := checkCount "sorted" 1 1 _) (wpAny_pure ?_); refine wpAny_bind (collect_lt hT ho hc hd ?_ hz)
  have sz1 : ((s.heap.push (seqObj "list" #[] 0)).update s.heap.objs.size (Obj.mapSeq (· ++ vs.toArray))).objs.size = s.heap.objs.size + 1 := by
    rw [Heap.size_update, size_push']
  have k1 : ∀ b o, s.heap.get? b = some o → ((s.heap.push (seqObj "list" #[] 0)).update s.heap.objs.size (Obj.mapSeq (· ++ vs.toArray))).get? b = some o := fun b o q => by
    rw [Heap.get?_update_ne _ _ _ _ (Nat.ne_of_lt (Heap.lt_size q))]
    exact Heap.get?_push_of_some _ q
  revert sz1 k1
  generalize (s.heap.push (seqObj "list" #[] 0)).update s.heap.objs.size (Obj.mapSeq (· ++ vs.toArray)) = h1
  intro sz1 k1
  refine wpAny_bind (wpAny_newList ?_ hz)
  have hoL : (h1.push (seqObj "list" vs.toArray 0)).get? h1.objs.size = some (seqObj "list" vs.toArray 0) := Heap.get?_push_size _ rfl
  have keep : ∀ b o, s.heap.get? b = some o → b ≠ h1.objs.size ∧ (h1.push (seqObj "list" vs.toArray 0)).get? b = some o := fun b o q => by
    have hlt : b < h1.objs.size := Heap.lt_size (k1 _ _ q)
    exact ⟨Nat.ne_of_lt hlt, Heap.get?_push_of_some _ (k1 _ _ q)⟩
  show wpAny _ _ _ _ _ { s with heap := h1.push (seqObj "list" vs.toArray 0) }
  refine wpAny_bind (wpAny_holding (wpAny_call_entry slot_list_sort ⟨_, hoL, rfl⟩ entry_list_sort (SrtO.list_sort_ord O hoL hz (fun h2 => hS h2 _ _ hoL keep) fun out hs hb => ⟨_, rfl, ?_⟩) (args_list_sort _))); refine wpAny_pure ⟨_, rfl, h _ _ out hs hb (fun b o q => ?_) (by show s.heap.objs.size ≤ h1.objs.size; omega) (sortedHeap_at hoL)⟩
  rw [sortedHeap_old (keep b o q).1 (by rw [Heap.size_push]; exact Nat.lt_succ_of_lt (Heap.lt_size (k1 _ _ q)))]
  exact (keep b o q).2
theorem seq_at {X : Cx} {pins : List (Addr × Obj)} {σ : L2.St} {H : Hp} {s : Shared} {a : Addr} {xs : List V} (I : Inv X pins σ H s) (h : SqL X.K H a xs ∨ SqT X.K H a xs) : ∃ (its : List Value) (T : String) (n : Nat) (o : Obj), Vals xs its ∧ (T = "list" ∨ T = "tuple") ∧ s.heap.get? a = some o ∧ o.cls = .type T ∧ o.data = .seq its.toArray n ∧ xs.length ≤ sizeLine := by
  rcases h with h | h
  · obtain ⟨its, rv, ⟨o, n, e, hc, hn, hd⟩, hz⟩ := I.list h
    exact ⟨its, "list", n, o, rv, .inl rfl, e, hc, hd, hz⟩
  · obtain ⟨its, rv, ⟨o, e, hc, n, hd⟩, hz⟩ := I.tuple h
    exact ⟨its, "tuple", n, o, rv, .inr rfl, e, hc, hd, hz⟩
end
/-- sorted(x), ints -/
def rSortI2 (K : PySem.W.Frag) : List V → Hp → VK → Prop := fun vs H Q => ∃ (a : Addr) (ns : List Int), vs = [V.ref a] ∧ (SqL K H a (ns.map V.int) ∨ SqT K H a (ns.map V.int)) ∧
  ∀ (ns' : List Int) (p : Addr), ns'.Perm ns → ns'.Pairwise (· ≤ ·) → H p = none → Q (.ref p) (upd H p (.lst (ns'.map V.int)))
/-- sorted(x), tuples of ints that are not empty -/
def rSortT2 (K : PySem.W.Frag) : List V → Hp → VK → Prop := fun vs H Q => ∃ (a : Addr) (xs : List V) (k : V → List Int), vs = [V.ref a] ∧ (SqL K H a xs ∨ SqT K H a xs) ∧ (∀ x ∈ xs, ∃ t, x = V.ref t ∧ SqT K H t ((k x).map V.int) ∧ k x ≠ []) ∧
  ∀ ys p, ys.Perm xs → (ys.map k).Pairwise (fun a b => lexL b a = false) → H p = none → Q (.ref p) (upd H p (.lst ys))
section
variable {X : Cx}
theorem cr_sortI2 : CallR X (.builtin "sorted") (rSortI2 X.K) := by
  intro pins s σ H vs us Q I r h
  obtain ⟨a, ns, rfl, hs, q⟩ := h
  obtain ⟨its, T, n, o, rv, hT, ho, hc, hd, hz⟩ := seq_at I hs
  rw [Vals.ref1 r]
  have hi := rv.ints
  refine sorted_seqO SrtO.swo_int hT ho hc hd (by rw [← rv.length]; exact hz) (fun h2 h₁ a' _ _ => SrtO.ints_sortable hi h2) fun h' d out h1 h2 kp hd hn => ?_
  obtain ⟨k1, k2, k3⟩ := SrtO.ints_out hi h1 h2
  obtain ⟨n, hn⟩ := hn
  have hlen : ((out.map SrtO.iv).map V.int).length ≤ sizeLine := by
    rw [List.length_map, k2.length_eq]
    rw [List.length_map] at hz
    exact hz
  exact ⟨.ref d, upd H d (.lst ((out.map SrtO.iv).map V.int)), I.laid (t' := s.toks) kp hd ⟨hlen, out, n, vals_of_ints k1, hn⟩, rfl, q _ _ k2 k3 (I.hok.fresh hd)⟩
theorem cr_sortT2 : CallR X (.builtin "sorted") (rSortT2 X.K) := by
  intro pins s σ H vs us Q I r h
  obtain ⟨a, xs, k, rfl, hs, hx, q⟩ := h
  obtain ⟨its, T, n, o, rv, hT, ho, hc, hd, hz⟩ := seq_at I hs
  rw [Vals.ref1 r]
  obtain ⟨e1, e2⟩ := refs_back rv fun x m => by
    obtain ⟨t, e, _⟩ := hx x m
    exact ⟨t, e⟩
  have hp : ∀ v ∈ its, IsIT s.heap v (k (backV v)) ∧ k (backV v) ≠ [] := by
    intro v hv
    obtain ⟨t, rfl⟩ := e2 v hv
    have hm : V.ref t ∈ xs := by rw [e1]; exact List.mem_map.mpr ⟨_, hv, rfl⟩
    obtain ⟨t', e, ht, hne⟩ := hx _ hm
    cases e
    obtain ⟨its2, r2, ⟨o2, g1, g2, n2, g3⟩, _⟩ := I.tuple ht
    exact ⟨⟨t, o2, its2.toArray, n2, rfl, g1, g2, g3, by show IntsAre its2 (k (V.ref t)); exact r2.ints⟩, hne⟩
  refine sorted_seqO (swo_lexL fun u => k (backV u)) hT ho hc hd (by rw [← rv.length]; exact hz) (fun h2 h₁ a' ha kk => ?_) fun h' d out h1 h2 kp hd hn => ?_
  · refine tups_sortable (s := { s with heap := h₁ }) (by omega) (fun v hm => ⟨(hp v hm).1.keeps fun b o e _ => (kk b o e).2, (hp v hm).2⟩) fun o e => ?_
    have e' : some o = some (seqObj "list" its.toArray 0) := e.symm.trans ha
    cases e'
    intro c
    exact absurd (Value.type.inj c) (by decide)
  · have h3 : ∀ u ∈ out, ∃ a, u = Value.ref a := fun u hu => e2 u (h2.perm.mem_iff.mp hu)
    obtain ⟨n, hn⟩ := hn
    have hb : (out.map backV).Perm xs := by
      rw [e1]
      exact h2.perm.map backV
    refine ⟨.ref d, upd H d (.lst (out.map backV)), I.laid (t' := s.toks) kp hd ⟨?_, out, n, vals_back h3, hn⟩, rfl, q _ d hb ?_ (I.hok.fresh hd)⟩
    · rw [hb.length_eq]
      exact hz
    · rw [List.map_map]
      exact List.pairwise_map.mpr (h1.imp fun {x y} h => h)
end
end Ev
end
section
set_option maxRecDepth 100000
set_option maxHeartbeats 4000000
/-! Ev: enumerate and sum of a tuple. -/
namespace Ev
open PySem PySem.Spec PyProof.Rows L2
/-- enumerate(v) -/
theorem meets_enum1 {v : Value} {ob : Obj} {P : Heap → Prop} (B : Begins v ob P) :
    Meets (Builtin.«enumerate.__new__» ⟨[.type "enumerate", v], []⟩) (fun _ R s => P s.heap ∧
      R (.ok (.ret (.ref (s.heap.push ob).objs.size))) { s with heap := (s.heap.push ob).push { cls := .type "enumerate", data := .fields #[.none, .bool false, .ref s.heap.objs.size, rawInt 0, .none, .none] } }) :=
  .of_wp fun prog w A R s h => by
    obtain ⟨hp, g, d, tk, os⟩ := s
    obtain ⟨hP, hR⟩ := h
    have hsub := sub_enumerate
    have nx : ∀ {A2 : Around} {E2 : Value → Shared → Prop} {Q2 : Value → Shared → Prop}, Q2 (.ref hp.objs.size) ⟨hp.push ob, g, d, tk, os⟩ → wpAny (model prog w) A2 (pyIter v) Q2 E2 ⟨hp, g, d, tk, os⟩ := fun q => B.iter prog w _ _ ⟨hp, g, d, tk, os⟩ _ hP q
    wp_walk using nx
    refine wpAny_stack_any fun st => wpAny_pure ?_
    split
    · rename_i c _ _ _ _ _
      cases (c == Value.type "enumerate") <;> (wp_walk using nx; exact ⟨_, rfl, hR⟩)
    · wp_walk using nx
      exact ⟨_, rfl, hR⟩
section
variable {prog : Program} {w : World} {A : Around} {E : Value → Shared → Prop} {s : Shared}
theorem call_enum1 {v : Value} {ob : Obj} {P : Heap → Prop} {Q : Value → Shared → Prop} (B : Begins v ob P) (hP : P s.heap)
    (hq : ∀ h', IsEnum h' (s.heap.objs.size + 1) s.heap.objs.size 0 .none → h'.get? s.heap.objs.size = some ob → h'.objs.size = s.heap.objs.size + 2 → (∀ b o, s.heap.get? b = some o → h'.get? b = some o) → Q (.ref (s.heap.objs.size + 1)) { s with heap := h' }) :
    wpAny (model prog w) A (call (.type "enumerate") [v]) Q E s := by
  refine callType_new F.called_enumerate (by decide) (F.typeCall_enumerate_1 _) (F.newCall_enumerate_1 _) (fun obj => F.args_object_init_2 obj _) F.entry_enumerate_new (meets_enum1 B) ⟨hP, ?_⟩
  have sz : (s.heap.push ob).objs.size = s.heap.objs.size + 1 := Heap.size_push ..
  show _ ∧ _
  rw [sz]
  have at1 := Heap.get?_push_size (s.heap.push ob) (o := { cls := .type "enumerate", data := .fields #[.none, .bool false, .ref s.heap.objs.size, rawInt 0, .none, .none] }) rfl
  rw [sz] at at1
  exact ⟨⟨_, at1, rfl⟩, hq _ at1 (Heap.get?_push_of_some _ (Heap.get?_push_size _ B.free)) (by rw [Heap.size_push, sz]) fun b o x => Heap.get?_push_of_some _ (Heap.get?_push_of_some _ x)⟩
end
/-- the tuple at a, each item in a new pair -/
def Itet (K : PySem.W.Frag) (a : Addr) : It :=
  ⟨fun i H => ∃ (xs : List V) (x : V), SqT K H a xs ∧ xs[i]? = some x, fun i H v H' => ∃ T x, v = .ref T ∧ H T = none ∧ H' = upd H T (.tup [.int (i : Nat), x]) ∧ ∀ xs, SqT K H a xs → xs[i]? = some x, fun i H => ∃ xs : List V, SqT K H a xs ∧ xs.length ≤ i⟩
theorem turn_enumT {P : Program} {w : World} {K : PySem.W.Frag} {elts : List Expr} {kk : Nat} {tpos : Pos} (a e it : Addr) :
    Turn P w K (.Tuple elts kk tpos) (Itet K a) [e, it] e (fun i h => (∃ old, IsEnum h e it ((i : Nat) : Int) old) ∧ h.IsTupleIter it a i ∧ e ≠ it ∧ a ≠ it ∧ e ≠ a) where
  mem := by simp
  obj := fun i h ⟨⟨old, he⟩, ⟨o, ho, hc, hd⟩, _⟩ b hb => by
    rcases (by simpa using hb : b = e ∨ b = it) with rfl | rfl
    · exact ⟨_, he, fun v q => nomatch q⟩
    · exact ⟨o, ho, fun v q => by rw [hd] at q; cases q⟩
  keep := fun i h h' ⟨⟨old, he⟩, hi, hne⟩ k => ⟨⟨old, k e (by simp) _ he⟩, hi.at fun o q => k it (by simp) o q, hne⟩
  item := by
    intro X hP hw hK hc i pins s σ H E I hf ⟨⟨old, he⟩, hit, n1, n2, n3⟩ ⟨xs, x, hq, hx⟩
    subst hP hw hK
    obtain ⟨its, rv, p, hz⟩ := I.tuple hq
    obtain ⟨u, hu, ru⟩ := rv.get hx
    have hl := rv.length
    have hlt : i < its.toArray.size := by
      have := (List.getElem?_eq_some_iff.mp hu).1
      simpa using this
    have hel : e < s.heap.objs.size := Heap.lt_size he
    have hil : it < s.heap.objs.size := by obtain ⟨_, q, _⟩ := hit; exact Heap.lt_size q
    have D := Draws.tuple (prog := X.prog) (w := X.w) (A := X.A.in1) (I.ok.hd hc) it a n2 its.toArray
    refine wpAny_pyNext_enum_itemD D he ⟨hit, p⟩ hlt n1 (by simp [n1, n3]) fun v h' tk hv ho hst hT hsz hk => ?_
    have ev : v = u := by
      have : its.toArray[i]? = some v := hv
      rw [List.getElem?_toArray, hu] at this
      exact (Option.some.inj this).symm
    subst ev
    refine ⟨_, rfl, wpAny_letOwnedTupleGo_enum (s := { s with heap := h', toks := tk + 1 }) ho fun h'' he' sb => ?_⟩
    have hT2 := (sb.2 _ (Nat.ne_of_gt hel)).trans hT
    have new : ObjOk X.prog X.w (upd H s.heap.objs.size (.tup [.int (i : Nat), x])) h'' s.heap.objs.size (.tup [.int (i : Nat), x]) :=
      ⟨by show 2 ≤ sizeLine; decide, [.int i tk, v], .cons ⟨_, rfl⟩ (.cons ru .nil), ⟨_, hT2, rfl, _, rfl⟩⟩
    have I1 : Inv X pins σ (upd H s.heap.objs.size (.tup [.int (i : Nat), x])) { s with heap := h'', toks := tk + 1 } :=
      I.turnedNew (ch := [e, it]) (fun b ob hb q => (sb.2 b (fun z => hb (by simp [z]))).trans (hk b ob (fun z => hb (by simp [z])) (fun z => hb (by simp [z])) q)) hf (Nat.le_refl _) new
    refine ⟨.ref s.heap.objs.size, _, I1, rfl, ⟨_, x, rfl, I.hok.fresh (Nat.le_refl _), rfl, fun ys hy => by rw [I.tuple_inj hy hq]; exact hx⟩, ⟨⟨v, ?_⟩, hst.1.at fun o q => (sb.2 it (Ne.symm n1)).trans q, n1, n2, n3⟩, fun b hb => ?_⟩
    · rw [show ((i + 1 : Nat) : Int) = (i : Int) + 1 by omega]
      exact he'
    · rw [upd_ne (Nat.ne_of_lt (by
        rcases (by simpa using hb : b = e ∨ b = it) with rfl | rfl
        · exact hel
        · exact hil))]
      exact (hf b hb).1
  done := by
    intro X hP hw hK hc i pins s σ H E I hf ⟨⟨old, he⟩, hit, n1, n2, n3⟩ ⟨xs, hq, hx⟩
    subst hP hw hK
    obtain ⟨its, rv, p, hz⟩ := I.tuple hq
    obtain ⟨f0, f1, f2, f3, f4, f5⟩ := hf it (by simp)
    have hl := rv.length
    have no : its.toArray[i]? = none := by
      rw [List.getElem?_toArray]
      exact List.getElem?_eq_none (by omega)
    have ty : s.TypeIs (.ref e) "enumerate" := ⟨_, he, rfl⟩
    unfold pyNext
    refine wpAny_bind (wpAny_attempt (wpAny_callSpecial?_slot (name := Str.ofString "__next__") ty F.slot_enumerate_next (wpAny_call_entry F.slot_enumerate_next ty F.entry_enumerate_next ?_ (F.args_enumerate_next_1 _))))
    show wpAny _ _ (field (.ref e) 2 >>= _) _ _ _
    refine wpAny_bind (wpAny_field he rfl (x := .ref it) rfl (wpAny_bind (wpAny_nextOf_tuple_end (show X.A.in1.in1.handled = none from I.ok.hd hc) hit p no fun h' x eb ⟨o, ho, hcl⟩ => ?_)))
    refine wpAny_bind (wpAny_isInstance (T := "StopIteration") (b := true) ⟨o, ho, hcl⟩ isSubtype_stop (wpAny_pure ?_))
    exact ⟨rfl, I.turned (t' := s.toks) (fun b o hb q => eb b o hb q) f0 f1 f3 f4 f5⟩
  self := fun A i s Q E ⟨⟨_, he⟩, _⟩ h => wpAny_pyIter_enum he h
def iEnumA (K : PySem.W.Frag) (ta : TA) : TI := fun σ H R => ta σ H fun vs H1 => ∃ a, vs = [.ref a] ∧ ((∃ xs, SqL K H1 a xs ∧ R (Ite K a) H1) ∨ ∃ xs, SqT K H1 a xs ∧ R (Itet K a) H1)
theorem pi_enumA {X : Cx} {e : Expr} {ta : TA} {p pos tpos : Pos} {elts : List Expr} {kk : Nat} (hg : Gl X "enumerate") (hm : X.mg "enumerate" = none) (ha : PA X [e] ta) (hs : starEach [e] X.env = [(false, eval e X.env)]) :
    PI X (.Tuple elts kk tpos) (.Call (.Name "enumerate" p) [e] [] pos) (iEnumA X.K ta) := by
  refine ⟨fun pins s σ H R I h => Call_ (ld_blt I hg hm boot_enumerate (PyProof.Rows.callWith_type1 (thn (ha.run pos pins s σ H _ I h) fun us s1 ⟨vs, H1, I1, r1, q1⟩ => ?_) hs rfl))⟩
  obtain ⟨a, ex, q1⟩ := q1
  subst ex
  rw [Vals.ref1 r1]
  have fp : ∀ b ∈ [s1.heap.objs.size + 1, s1.heap.objs.size], FpOk X pins H1 b := fun b hb => by
    have hle : s1.heap.objs.size ≤ b := by
      rcases (by simpa using hb : b = s1.heap.objs.size + 1 ∨ b = s1.heap.objs.size) with z | z <;> omega
    exact I1.fpOk hle (I1.hok.fresh hle)
  rcases q1 with ⟨xs, hq, q⟩ | ⟨xs, hq, q⟩
  · obtain ⟨its, rv, p', hz⟩ := I1.list hq
    refine call_enumerate_list p'.isList fun h' he hit hsz hk => wpAny_pyIter_enum he ?_
    exact ⟨s1.heap.objs.size + 1, _, _, _, H1, rfl, I1.kept (t' := s1.toks) hk, turn_enum a (s1.heap.objs.size + 1) s1.heap.objs.size, ⟨⟨.none, he⟩, hit, Nat.succ_ne_self _⟩, fp, q⟩
  · obtain ⟨its, rv, p', hz⟩ := I1.tuple hq
    have la : a < s1.heap.objs.size := by
      obtain ⟨o, ho, _⟩ := p'
      exact Heap.lt_size ho
    refine call_enum1 (begins_tuple a its.toArray) p' fun h' he hit hsz hk => wpAny_pyIter_enum he ?_
    exact ⟨s1.heap.objs.size + 1, _, _, _, H1, rfl, I1.kept (t' := s1.toks) hk, turn_enumT a (s1.heap.objs.size + 1) s1.heap.objs.size, ⟨⟨.none, he⟩, ⟨_, hit, rfl, rfl⟩, Nat.succ_ne_self _, Nat.ne_of_lt la, Nat.ne_of_gt (Nat.lt_succ_of_lt la)⟩, fp, q⟩
/-- sum(x), ints, a list or a tuple -/
def rSum2 (K : PySem.W.Frag) : List V → Hp → VK → Prop := fun vs H Q => ∃ (a : Addr) (ns : List Int), vs = [V.ref a] ∧ (SqL K H a (ns.map V.int) ∨ SqT K H a (ns.map V.int)) ∧ Q (.int ns.sum) H
theorem cr_sum2 {X : Cx} (hc : X.calm = true) : CallR X (.builtin "sum") (rSum2 X.K) := by
  intro pins s σ H vs us Q I r h
  obtain ⟨a, ns, rfl, hs | hs, q⟩ := h
  · exact cr_sum hc pins s σ H _ us Q I r ⟨a, ns, rfl, hs, q⟩
  · obtain ⟨its, rv, hl, _⟩ := I.tuple hs
    rw [Vals.ref1 r]
    obtain ⟨xs, e⟩ := rv.ints.allInts.items
    have hn : numsOf (intItems xs).toList = ns := by rw [← e]; exact rv.ints.numsOf
    rw [nums_intItems] at hn
    rw [e] at hl
    refine PySem.W.ktm_sumG (I.ok.hd hc) hl fun h' tk t' hk => ⟨.int ns.sum, H, I.kept hk, ⟨t', ?_⟩, q⟩
    rw [preSum_eq, List.take_of_length_le (by simp), hn]
end Ev
end
section
set_option maxRecDepth 100000
set_option maxHeartbeats 4000000
/-! dicts with tuple keys: items walked. -/
namespace Ev
open PySem PySem.Spec PyProof.Rows L2
section
variable {X : Cx} {pins : List (Addr × Obj)} {σ : L2.St} {H : Hp} {s : Shared} {d : Addr} {o : Obj}
theorem frzT2 {kvs : List (List Key × V)} (I : Inv X pins σ H s) (h : H d = some (.frz o (.dT kvs))) :
    (d == sysModules) = false ∧ s.heap.get? d = some o ∧ o.ExactDict ∧ ∃ (es : Array DictEntry) (ep : Nat), o.data = .dict es ep ∧ es.size = kvs.length ∧
      ∀ (i : Nat) (k : List Key) (v : V), kvs[i]? = some (k, v) → ∃ (en : DictEntry) (q : Addr), es[i]? = some en ∧ en.key = .ref q ∧ H q = some (.tup (k.map kV)) ∧ RelV v en.val := by
  obtain ⟨hd, z, hs, xs, pr, o', es, ep, ho, hx, hdt, he, _⟩ := I.hok d _ h
  rw [hd] at ho
  cases ho
  refine ⟨hs, hd, hx, es, ep, hdt, ?_, fun i k v e => ?_⟩
  · have l1 : es.size = xs.length := size_of_entries he
    have l2 : kvs.length = xs.length := Paired.length pr
    omega
  · obtain ⟨b, hb, e1, e2, e3⟩ := paired_get pr e
    have q := entry_at he i
    rw [hb] at q
    exact ⟨_, b.2.1, q, rfl, e2, e3⟩
end
/-- the pairs, each a new tuple, of tuple keys -/
def Itit (d : Addr) (o : Obj) (kvs : List (List Key × V)) : It :=
  ⟨fun i H => H d = some (.frz o (.dT kvs)) ∧ i < kvs.length, fun i H x H' => ∃ T k v q, kvs[i]? = some (k, v) ∧ x = .ref T ∧ H q = some (.tup (k.map kV)) ∧ H T = none ∧ H' = upd H T (.tup [.ref q, v]), fun i H => H d = some (.frz o (.dT kvs)) ∧ kvs.length ≤ i⟩
theorem turn_itemsT {P : Program} {w : World} {K : PySem.W.Frag} {d : Addr} {o : Obj} {es : Array DictEntry} {ep : Nat} {kvs : List (List Key × V)} {elts : List Expr} {kk : Nat} {tpos : Pos} (it : Addr) (hod : o.data = .dict es ep) :
    Turn P w K (.Tuple elts kk tpos) (Itit d o kvs) [it] it (fun i h => ∃ ok ov, IsItemIter h it d i kvs.length ep ok ov) where
  mem := by simp
  obj := fun i h st b hb => by
    have e : b = it := by simpa using hb
    subst e
    obtain ⟨ok, ov, e⟩ := st
    exact ⟨_, e, fun v z => nomatch z⟩
  keep := fun i h h' st k => let ⟨ok, ov, e⟩ := st; ⟨ok, ov, k it (by simp) _ e⟩
  item := by
    intro X hP hw hK hc i pins s σ H E I hf st hg
    subst hP hw hK
    obtain ⟨hd, hi⟩ := hg
    obtain ⟨hs, hgd, hx, es', ep', hdt, hsz, ent⟩ := frzT2 I hd
    obtain ⟨rfl, rfl⟩ := dict_ep hod hdt
    obtain ⟨⟨k, v⟩, hkv⟩ : ∃ p, kvs[i]? = some p := ⟨kvs[i], List.getElem?_eq_getElem hi⟩
    obtain ⟨en, q, he1, he2, hq, rv⟩ := ent i k v hkv
    obtain ⟨ok, ov, he⟩ := st
    rw [← hsz] at he
    have hie : i < es'.size := by omega
    have een : es'[i] = en := by
      rw [Array.getElem?_eq_getElem hie] at he1
      exact Option.some.inj he1
    have hlt : it < s.heap.objs.size := Heap.lt_size he
    refine DT.nextI he ⟨o, hgd, hx, hdt⟩ hie fun h' ho hT hz hk => ?_
    rw [een] at ho hT
    refine ⟨_, rfl, wpAny_letOwnedTupleGo_items (s := { s with heap := h' }) ho fun h'' he' sb => ?_⟩
    have hT2 : h''.get? s.heap.objs.size = some { cls := .type "tuple", data := .seq #[en.key, en.val] } := (sb.2 _ (Nat.ne_of_gt hlt)).trans hT
    have new : ObjOk X.prog X.w (upd H s.heap.objs.size (.tup [.ref q, v])) h'' s.heap.objs.size (.tup [.ref q, v]) :=
      ⟨by show 2 ≤ sizeLine; decide, [en.key, en.val], .cons he2 (.cons rv .nil), ⟨_, hT2, rfl, _, rfl⟩⟩
    have I1 : Inv X pins σ (upd H s.heap.objs.size (.tup [.ref q, v])) { s with heap := h'' } :=
      I.turnedNew (t' := s.toks) (ch := [it]) (fun b ob hb e => (sb.2 b (by simpa using hb)).trans (hk b ob (by simpa using hb) e)) hf (Nat.le_refl _) new
    refine ⟨.ref s.heap.objs.size, _, I1, rfl, ⟨_, k, v, q, hkv, rfl, hq, I.hok.fresh (Nat.le_refl _), rfl⟩, ⟨en.key, en.val, ?_⟩, fun b hb => ?_⟩
    · rw [← hsz]; exact he'
    · have e : b = it := by simpa using hb
      rw [e, upd_ne (Nat.ne_of_lt hlt)]
      exact (hf it (by simp)).1
  done := by
    intro X hP hw hK hc i pins s σ H E I hf st hg
    subst hP hw hK
    obtain ⟨hd, hi⟩ := hg
    obtain ⟨f0, f1, f2, f3, f4, f5⟩ := hf it (by simp)
    obtain ⟨hs, hgd, hx, es', ep', hdt, hsz, ent⟩ := frzT2 I hd
    obtain ⟨rfl, rfl⟩ := dict_ep hod hdt
    obtain ⟨ok, ov, he⟩ := st
    rw [← hsz] at he
    exact DT.endI (I.ok.hd hc) he ⟨o, hgd, hx, hdt⟩ (by omega) fun h' eb => ⟨rfl, I.turned (t' := s.toks) (fun b ob hb e => eb b ob hb e) f0 f1 f3 f4 f5⟩
  self := fun A i s Q E st h => let ⟨_, _, e⟩ := st; PySem.W.kcp_self e h
def iItemsT (td : TE) : TI := fun σ H R => td σ H fun x H1 => ∃ d o kvs, x = .ref d ∧ H1 d = some (.frz o (.dT kvs)) ∧ R (Itit d o kvs) H1
theorem pi_itemsT {X : Cx} {e : Expr} {td : TE} {apos cpos : Pos} {elts : List Expr} {kk : Nat} {tpos : Pos} (he : PE X e td) (hbase : attributeBase e "items" X.env (eval e X.env) = eval e X.env := by rfl) (hline : (apos.endLine == cpos.line) = true := by rfl) :
    PI X (.Tuple elts kk tpos) (.Call (.Attribute e "items" apos) [] [] cpos) (iItemsT td) := by
  refine ⟨fun pins s σ H R I h => ?_⟩
  refine wpAny_Call_method (T := "dict") (id := "dict.items") hbase rfl hline F.plainAttrs_dict F.slot_dict_items F.type_dict_items (thn (he.run pins s σ H _ I h) fun u s1 ⟨x, H1, I1, rx, d, o, kvs, ex, hd, q⟩ => ?_)
  subst ex
  obtain rfl : u = Value.ref d := rx
  obtain ⟨hs, hgd, hx, es, ep, hdt, hsz, ent⟩ := frzT2 I1 hd
  have hm : DT.Raw s1.heap d es ep := ⟨o, hgd, hx, hdt⟩
  refine ⟨hm.typeIs, fun a ea => by cases ea; exact ⟨o, hgd, hx.2.1⟩, ?_⟩
  have I2 : Inv X pins σ H1 { s1 with heap := s1.heap.push { cls := .type "dict_items", data := .fields #[.ref d] } } := I1.kept (t' := s1.toks) fun b ob q => Heap.get?_push_of_some _ q
  have fin : wpAny (model X.prog X.w) X.A (pyIter (.ref s1.heap.objs.size)) (PIE X pins σ (.Tuple elts kk tpos) R) X.xe { s1 with heap := s1.heap.push { cls := .type "dict_items", data := .fields #[.ref d] } } := by
    refine DT.iterI (d := d) ⟨_, Heap.get?_push_size _ rfl, rfl, rfl⟩ (hm.push _) (pi_one (tk := s1.toks) I2 _ (turn_itemsT _ hdt) ⟨.none, .none, ?_⟩ q)
    rw [← hsz]
    exact Heap.get?_push_size _ rfl
  show wpAny _ _ (callWith cpos (.builtin "dict.items") [.ref d] [] []) _ X.xe s1
  exact method_meetsIn F.slot_dict_items F.entry_dict_items rfl (PySem.evalArgs_none ⟨rfl, hm.typeIs, F.args_dict_items_1 _, _, DT.meetsItems (es := es) (ep := ep) hs, ⟨hm, fin⟩⟩)
end Ev
end
section
set_option maxRecDepth 100000
set_option maxHeartbeats 4000000
/-! Ev, part 5: comparisons, truth, places, built-in functions. -/
namespace Ev
open PySem PySem.Spec PyProof.Rows L2
/-! #### == -/
mutual
def toPy : D → PyData
  | .non => .none
  | .bl b => .bool b
  | .int i => .int i
  | .str s => .str ⟨s.toArray⟩
  | .tup l => .tuple (toPyL l)
  | .lst l => .list (toPyL l)
  | .ref _ => .none
  | .obj _ _ => .none
def toPyL : List D → List PyData
  | [] => []
  | d :: l => toPy d :: toPyL l
end
mutual
theorem pln_shape : ∀ (n : Nat) (d : D), pln n d = true → (toPy d).canLay0 = true ∧ (toPy d).depth ≤ n
  | _, .non, _ => by simp [toPy, PyData.canLay0, PyData.depth]
  | _, .bl _, _ => by simp [toPy, PyData.canLay0, PyData.depth]
  | _, .int _, _ => by simp [toPy, PyData.canLay0, PyData.depth]
  | _, .str s, h => by
    simp only [pln] at h
    simp [toPy, PyData.canLay0, PyData.depth, PyData.strOk]
    simpa using h
  | 0, .tup _, h => by simp [pln] at h
  | 0, .lst _, h => by simp [pln] at h
  | n + 1, .tup l, h => by
    simp only [pln] at h
    obtain ⟨h1, h2⟩ := plnL_shape n l h
    simp only [toPy, PyData.canLay0, PyData.depth]
    exact ⟨h1, by omega⟩
  | n + 1, .lst l, h => by
    simp only [pln] at h
    obtain ⟨h1, h2⟩ := plnL_shape n l h
    simp only [toPy, PyData.canLay0, PyData.depth]
    exact ⟨h1, by omega⟩
  | _, .ref _, h => by simp [pln] at h
  | _, .obj _ _, h => by simp [pln] at h
theorem plnL_shape : ∀ (n : Nat) (l : List D), plnL n l = true → PyData.canLayAll0 (toPyL l) = true ∧ PyData.depthAll (toPyL l) ≤ n
  | _, [], _ => by simp [toPyL, PyData.canLayAll0, PyData.depthAll]
  | n, d :: l, h => by
    simp only [plnL, Bool.and_eq_true] at h
    obtain ⟨h1, h2⟩ := pln_shape n d h.1
    obtain ⟨h3, h4⟩ := plnL_shape n l h.2
    simp only [toPyL, PyData.canLayAll0, PyData.depthAll, h1, h3]
    exact ⟨rfl, by omega⟩
end
theorem shaped_of {n : Nat} {d : D} (h : pln n d = true) (hn : n ≤ 60) : SeqAt.shaped (toPy d) = true := by
  obtain ⟨h1, h2⟩ := pln_shape n d h
  unfold SeqAt.shaped
  rw [h1, decide_eq_true (show (toPy d).depth ≤ 64 by omega)]
  rfl
theorem str_beq (a b : List Nat) : ((⟨a.toArray⟩ : Str) == ⟨b.toArray⟩) = (a == b) := by
  rw [Bool.eq_iff_iff, beq_iff_eq, beq_iff_eq]
  constructor
  · intro h
    injection h with h
    simpa using h
  · rintro rfl; rfl
mutual
theorem eqv_of : ∀ (n k : Nat) (d e : D), pln n d = true → pln k e = true → PyData.eqv (toPy d) (toPy e) = eqD d e
  | n, k, d, e, h1, h2 => by
    cases d with
    | ref i => cases n <;> simp [pln] at h1
    | obj c l => cases n <;> simp [pln] at h1
    | tup l =>
      cases n with
      | zero => simp [pln] at h1
      | succ n =>
        cases e with
        | ref i => cases k <;> simp [pln] at h2
        | obj c l => cases k <;> simp [pln] at h2
        | tup l2 =>
          cases k with
          | zero => simp [pln] at h2
          | succ k =>
            simp only [pln] at h1 h2
            simp only [toPy, PyData.eqv, eqD]
            exact eqvL_of n k l l2 h1 h2
        | _ => simp [toPy, PyData.eqv, eqD]
    | lst l =>
      cases n with
      | zero => simp [pln] at h1
      | succ n =>
        cases e with
        | ref i => cases k <;> simp [pln] at h2
        | obj c l => cases k <;> simp [pln] at h2
        | lst l2 =>
          cases k with
          | zero => simp [pln] at h2
          | succ k =>
            simp only [pln] at h1 h2
            simp only [toPy, PyData.eqv, eqD]
            exact eqvL_of n k l l2 h1 h2
        | _ => simp [toPy, PyData.eqv, eqD]
    | str s =>
      cases e with
      | ref i => cases k <;> simp [pln] at h2
      | obj c l => cases k <;> simp [pln] at h2
      | str t => simp only [toPy, PyData.eqv, eqD, str_beq]
      | _ => simp [toPy, PyData.eqv, eqD]
    | non =>
      cases e with
      | ref i => cases k <;> simp [pln] at h2
      | obj c l => cases k <;> simp [pln] at h2
      | _ => simp [toPy, PyData.eqv, eqD]
    | bl b =>
      cases e with
      | ref i => cases k <;> simp [pln] at h2
      | obj c l => cases k <;> simp [pln] at h2
      | _ => simp [toPy, PyData.eqv, eqD]
    | int i =>
      cases e with
      | ref i => cases k <;> simp [pln] at h2
      | obj c l => cases k <;> simp [pln] at h2
      | _ => simp [toPy, PyData.eqv, eqD]
theorem eqvL_of : ∀ (n k : Nat) (l r : List D), plnL n l = true → plnL k r = true → PyData.eqvAll (toPyL l) (toPyL r) = eqL l r
  | n, k, [], [], _, _ => by simp [toPyL, PyData.eqvAll, eqL]
  | n, k, [], _ :: _, _, _ => by simp [toPyL, PyData.eqvAll, eqL]
  | n, k, _ :: _, [], _, _ => by simp [toPyL, PyData.eqvAll, eqL]
  | n, k, d :: l, e :: r, h1, h2 => by
    simp only [plnL, Bool.and_eq_true] at h1 h2
    simp only [toPyL, PyData.eqvAll, eqL, eqv_of n k d e h1.1 h2.1, eqvL_of n k l r h1.2 h2.2]
end
section
variable {G : Pg} {X : Cx} {m : List Addr} {H : Hp} {S : Store}
mutual
theorem dp_of : ∀ (n : Nat) (d : D) (v : V), pln n d = true → Rep G m H d v → Dp G.K H v (toPy d)
  | n, d, v, h, r => by
    cases d with
    | non => rw [r.non_inv]; simp only [toPy]; exact .non
    | bl b => rw [r.bl_inv]; simp only [toPy]; exact .bl b
    | int i => rw [r.int_inv]; simp only [toPy]; exact .int i
    | str s => rw [r.str_inv]; simp only [toPy]; exact .str _
    | tup l =>
      obtain ⟨p, vs, rfl, f, rl⟩ := r.tup_inv
      simp only [toPy]
      cases n with
      | zero => simp [pln] at h
      | succ n => simp only [pln] at h; exact .tup f.sq (dpL_of n l vs h rl)
    | lst l =>
      obtain ⟨p, vs, rfl, f, rl⟩ := r.lst_inv
      simp only [toPy]
      cases n with
      | zero => simp [pln] at h
      | succ n => simp only [pln] at h; exact .lst (sq_of f.2) (dpL_of n l vs h rl)
    | ref i => cases n <;> simp [pln] at h
    | obj c l => cases n <;> simp [pln] at h
theorem dpL_of : ∀ (n : Nat) (l : List D) (vs : List V), plnL n l = true → RepL G m H l vs → DpAll G.K H vs (toPyL l)
  | n, [], vs, _, r => by
    simp only [RepL] at r; subst r
    simp only [toPyL]; exact .nil
  | n, d :: l, vs, h, r => by
    simp only [RepL] at r
    obtain ⟨v, us, rfl, r1, r2⟩ := r
    simp only [plnL, Bool.and_eq_true] at h
    simp only [toPyL]
    exact .cons (dp_of n d v h.1 r1) (dpL_of n l us h.2 r2)
end
theorem dp_vw {d : D} {v : V} {n : Nat} (rs : RS G m H S) (r : Rep G m H d v) (h : pln n (vw d S) = true) : Dp G.K H v (toPy (vw d S)) := by
  unfold vw at h ⊢
  split at h
  · rename_i k
    split at h
    · rename_i l e
      obtain ⟨p, rfl, hp⟩ := r.ref_inv
      obtain ⟨p', hp', vs, hv, rl⟩ := rs.cel _ _ e
      rw [hp] at hp'; cases hp'
      simp only [toPy]
      cases n with
      | zero => simp [pln] at h
      | succ n => simp only [pln] at h; exact .lst (.inl (.inl hv)) (dpL_of n l vs h rl)
    · cases n <;> simp [pln] at h
  · exact dp_of n d v h r
end
/-! #### comparisons -/
def rCmp (G : Pg) (op : Cp) : R2 := fun x y H Q => ∃ m S d e k, RS G m H S ∧ Rep G m H d x ∧ Rep G m H e y ∧ cmpD op d e S = some k ∧ Q (.bl k) H
section
variable {G : Pg} {X : Cx} {m : List Addr} {H : Hp} {S : Store}
theorem flat_of {d : D} {v : V} (r : Rep G m H d v) (h : flD d = true) : flatV v = true := by
  cases d with
  | non => rw [r.non_inv]; rfl
  | bl b => rw [r.bl_inv]; rfl
  | int i => rw [r.int_inv]; rfl
  | str s => rw [r.str_inv]; rfl
  | _ => simp [flD] at h
theorem eqV_of {d e : D} {v u : V} (r : Rep G m H d v) (q : Rep G m H e u) (h : flD d = true) (k : flD e = true) : eqV v u = eqD d e := by
  cases d with
  | non =>
    rw [r.non_inv]
    cases e with
    | non => rw [q.non_inv]; simp [eqV, eqD]
    | bl b => rw [q.bl_inv]; simp [eqV, eqD]
    | int i => rw [q.int_inv]; simp [eqV, eqD]
    | str s => rw [q.str_inv]; simp [eqV, eqD]
    | _ => simp [flD] at k
  | bl b =>
    rw [r.bl_inv]
    cases e with
    | non => rw [q.non_inv]; simp [eqV, eqD]
    | bl b => rw [q.bl_inv]; simp [eqV, eqD]
    | int i => rw [q.int_inv]; simp [eqV, eqD]
    | str s => rw [q.str_inv]; simp [eqV, eqD]
    | _ => simp [flD] at k
  | int i =>
    rw [r.int_inv]
    cases e with
    | non => rw [q.non_inv]; simp [eqV, eqD]
    | bl b => rw [q.bl_inv]; simp [eqV, eqD]
    | int i => rw [q.int_inv]; simp [eqV, eqD]
    | str s => rw [q.str_inv]; simp [eqV, eqD]
    | _ => simp [flD] at k
  | str s =>
    rw [r.str_inv]
    cases e with
    | non => rw [q.non_inv]; simp [eqV, eqD]
    | bl b => rw [q.bl_inv]; simp [eqV, eqD]
    | int i => rw [q.int_inv]; simp [eqV, eqD]
    | str s => rw [q.str_inv]; simp only [eqV, eqD, str_beq]
    | _ => simp [flD] at k
  | _ => simp [flD] at h
theorem flats_of : ∀ {l : List D} {vs : List V}, RepL G m H l vs → l.all flD = true → vs.all flatV = true
  | [], _, r, _ => by simp only [RepL] at r; subst r; rfl
  | d :: l, _, r, h => by
    simp only [RepL] at r
    obtain ⟨v, us, rfl, r1, r2⟩ := r
    simp only [List.all_cons, Bool.and_eq_true] at h ⊢
    exact ⟨flat_of r1 h.1, flats_of r2 h.2⟩
theorem anyV_of {d : D} {x : V} (q : Rep G m H d x) (hd : flD d = true) : ∀ {l : List D} {vs : List V}, RepL G m H l vs → l.all flD = true → (vs.any fun y => eqV y x) = l.any fun y => eqD y d
  | [], _, r, _ => by simp only [RepL] at r; subst r; rfl
  | e :: l, _, r, h => by
    simp only [RepL] at r
    obtain ⟨v, us, rfl, r1, r2⟩ := r
    simp only [List.all_cons, Bool.and_eq_true] at h
    simp only [List.any_cons, eqV_of r1 q h.1 hd, anyV_of q hd r2 h.2]
theorem anyP_of {d : D} (hd : pln 60 d = true) : ∀ {l : List D}, plnL 60 l = true → ((toPyL l).any fun z => PyData.eqv z (toPy d)) = l.any fun y => eqD y d
  | [], _ => rfl
  | e :: l, h => by
    simp only [plnL, Bool.and_eq_true] at h
    simp only [toPyL, List.any_cons, eqv_of 60 60 e d h.1 hd, anyP_of hd h.2]
theorem in_cases {d e : D} {x y : V} {k : Bool} (rs : RS G m H S) (rd : Rep G m H d x) (re : Rep G m H e y) (h : inD d e S = some k) :
    (∃ p xs, y = .ref p ∧ SqT G.K H p xs ∧ flatV x = true ∧ xs.all flatV = true ∧ inV x xs = k) ∨
      ∃ d' ds, Dp G.K H x d' ∧ Dp G.K H y (.list ds) ∧ SeqAt.shaped d' = true ∧ SeqAt.shaped (.list ds) = true ∧ (ds.any fun z => PyData.eqv z d') = k := by
  unfold inD at h
  split at h
  · rename_i l
    split at h
    · rename_i hf
      cases h
      simp only [Bool.and_eq_true] at hf
      obtain ⟨p, vs, rfl, f, r⟩ := re.tup_inv
      refine .inl ⟨p, vs, rfl, f.sq, flat_of rd hf.1, flats_of r hf.2, ?_⟩
      exact anyV_of rd hf.1 r hf.2
    · cases h
  · split at h
    · rename_i l e1
      split at h
      · rename_i hf
        cases h
        simp only [Bool.and_eq_true] at hf
        obtain ⟨p, vs, rfl, hp, r⟩ := lstOf_sq rs re e1
        have hl := plnL_shape 60 l hf.2
        refine .inr ⟨toPy (vw d S), toPyL l, dp_vw rs rd hf.1, .lst (sq_of hp) (dpL_of 60 l vs hf.2 r), shaped_of hf.1 (Nat.le_refl _), ?_, anyP_of hf.1 hf.2⟩
        unfold SeqAt.shaped
        simp only [PyData.canLay0, PyData.depth, hl.1, Bool.true_and]
        exact decide_eq_true (by have := hl.2; omega)
      · cases h
    · cases h
theorem cmpI_int {op : Cp} {d e : D} {x y : V} {k : Bool} (rd : Rep G m H d x) (re : Rep G m H e y) (h : intCmp op d e = some k) : ∃ i j, x = .int i ∧ y = .int j ∧ k = cmpI op i j := by
  unfold intCmp at h
  split at h
  · rename_i i j
    cases h
    exact ⟨i, j, rd.int_inv, re.int_inv, rfl⟩
  · cases h
theorem op_cmp (hK : X.K = G.K) (hu : X.A.units + 65 < cLine) (op : Cp) : OpR X (compareOp op.of) (rCmp G op) := by
  intro pins s σ H x y v u Q I rx ry ⟨m, S, d, e, k, rs, rd, re, h, q⟩
  cases op with
  | eq =>
    simp only [cmpD] at h
    split at h
    · rename_i hf
      cases h
      simp only [Bool.and_eq_true] at hf
      refine op_eqD (by omega) pins s σ H x y v u Q I rx ry ⟨toPy (vw d S), toPy (vw e S), ?_, ?_, shaped_of hf.1 (Nat.le_refl _), shaped_of hf.2 (Nat.le_refl _), ?_⟩
      · rw [hK]; exact dp_vw rs rd hf.1
      · rw [hK]; exact dp_vw rs re hf.2
      · rw [eqv_of 60 60 _ _ hf.1 hf.2]; exact q
    · cases h
  | ne =>
    simp only [cmpD] at h
    split at h
    · rename_i hf
      cases h
      simp only [Bool.and_eq_true] at hf
      refine op_neD (by omega) pins s σ H x y v u Q I rx ry ⟨toPy (vw d S), toPy (vw e S), ?_, ?_, shaped_of hf.1 (Nat.le_refl _), shaped_of hf.2 (Nat.le_refl _), ?_⟩
      · rw [hK]; exact dp_vw rs rd hf.1
      · rw [hK]; exact dp_vw rs re hf.2
      · rw [eqv_of 60 60 _ _ hf.1 hf.2]; exact q
    · cases h
  | isIn =>
    simp only [cmpD] at h
    rcases in_cases rs rd re h with ⟨p, xs, ey, hs, f1, f2, e1⟩ | ⟨d', ds, h1, h2, h3, h4, e1⟩
    · exact op_in_seq pins s σ H x y v u Q I rx ry ⟨p, xs, ey, .inr (by rw [hK]; exact hs), f1, f2, by rw [if_neg Bool.false_ne_true, e1]; exact q⟩
    · exact op_inD hu pins s σ H x y v u Q I rx ry ⟨d', ds, by rw [hK]; exact h1, by rw [hK]; exact h2, h3, h4, by rw [e1]; exact q⟩
  | notIn =>
    simp only [cmpD] at h
    split at h
    · rename_i b hb
      cases h
      rcases in_cases rs rd re hb with ⟨p, xs, ey, hs, f1, f2, e1⟩ | ⟨d', ds, h1, h2, h3, h4, e1⟩
      · exact op_notIn_seq pins s σ H x y v u Q I rx ry ⟨p, xs, ey, .inr (by rw [hK]; exact hs), f1, f2, by rw [if_pos rfl, e1]; exact q⟩
      · exact op_notInD hu pins s σ H x y v u Q I rx ry ⟨d', ds, by rw [hK]; exact h1, by rw [hK]; exact h2, h3, h4, by rw [e1]; exact q⟩
    · cases h
  | lt =>
    simp only [cmpD] at h
    obtain ⟨i, j, ex, ey, ek⟩ := cmpI_int rd re h
    subst ek
    exact op_lt pins s σ H x y v u Q I rx ry ⟨i, j, ex, ey, q⟩
  | le =>
    simp only [cmpD] at h
    obtain ⟨i, j, ex, ey, ek⟩ := cmpI_int rd re h
    subst ek
    exact op_le pins s σ H x y v u Q I rx ry ⟨i, j, ex, ey, q⟩
  | gt =>
    simp only [cmpD] at h
    obtain ⟨i, j, ex, ey, ek⟩ := cmpI_int rd re h
    subst ek
    exact op_gt pins s σ H x y v u Q I rx ry ⟨i, j, ex, ey, q⟩
  | ge =>
    simp only [cmpD] at h
    obtain ⟨i, j, ex, ey, ek⟩ := cmpI_int rd re h
    subst ek
    exact op_ge pins s σ H x y v u Q I rx ry ⟨i, j, ex, ey, q⟩
/-! #### truth -/
theorem tru_of {d : D} {v : V} {k : Bool} (rs : RS G m H S) (r : Rep G m H d v) (h : truD d S = some k) : TruV G.K v H k := by
  have nb : ∀ {l : List D} {vs : List V}, RepL G m H l vs → (!l.isEmpty) = !vs.isEmpty := fun {l vs} q => by
    have e := q.length
    cases l <;> cases vs <;> simp_all
  cases d with
  | non => cases h; rw [r.non_inv]; rfl
  | bl b => cases h; rw [r.bl_inv]; rfl
  | int i => cases h; rw [r.int_inv]; rfl
  | str s =>
    simp only [truD] at h
    split at h
    · rename_i hz
      cases h
      rw [r.str_inv]
      refine ⟨by rw [str_len, ← lim]; exact hz, ?_⟩
      rw [str_len]
      cases s with
      | nil => rfl
      | cons a b =>
        show true = (((a :: b).length : Int) != 0)
        have : ((a :: b).length : Int) ≠ 0 := by simp only [List.length_cons]; omega
        exact (bne_iff_ne.mpr this).symm
    · cases h
  | tup l =>
    cases h
    obtain ⟨p, vs, rfl, f, q⟩ := r.tup_inv
    exact .inr (.inl ⟨vs, f.sq, nb q⟩)
  | lst l =>
    cases h
    obtain ⟨p, vs, rfl, f, q⟩ := r.lst_inv
    exact .inl ⟨vs, sq_of f.2, nb q⟩
  | ref n =>
    simp only [truD] at h
    split at h
    · rename_i l e
      cases h
      obtain ⟨p, rfl, hp⟩ := r.ref_inv
      obtain ⟨p', hp', vs, hv, q⟩ := rs.cel _ _ e
      rw [hp] at hp'; cases hp'
      exact .inl ⟨vs, .inl (.inl hv), nb q⟩
    · cases h
  | obj c l => cases h
theorem op_tru (hK : X.K = G.K) : TruR X (fun x H Q => ∃ m S d k, RS G m H S ∧ Rep G m H d x ∧ truD d S = some k ∧ Q k H) := by
  intro pins s σ H x v Q I rx ⟨m, S, d, k, rs, r, e, q⟩
  exact tru_ok pins s σ H x v Q I rx ⟨k, by rw [hK]; exact tru_of rs r e, q⟩
/-! #### a place, a slice -/
theorem ixN_eq (n : Nat) (i : Int) : ixN n i = L2.ixN n i := rfl
theorem op_idx (hK : X.K = G.K) : IxR X (fun x y H Q => ∃ m S d e, RS G m H S ∧ Rep G m H d x ∧ Rep G m H e y ∧ FinV G (Rep G) m H (ofO (idxD d e S) S) Q) := by
  intro value slice pins s σ H x y v u Q I rx ry ⟨m, S, d, e, rs, rd, re, h⟩ hs
  cases ei : idxD d e S with
  | none => rw [ei] at h; exact h.elim
  | some z =>
    rw [ei] at h
    unfold idxD at ei
    split at ei
    · rename_i i
      have ey := re.int_inv
      split at ei
      · rename_i t
        split at ei
        · rename_i hz
          split at ei
          · rename_i k hk
            split at ei
            · rename_i c hc
              cases ei
              refine (ix_str value slice pins s σ H x y v u Q I rx ry ⟨_, i, c, rd.str_inv, ey, ?_, ?_, ?_⟩ hs)
              · rw [str_len, ← lim]; exact hz
              · unfold atI
                rw [show ((⟨t.toArray⟩ : Str).cps.toList) = t from by simp, ← ixN_eq, hk]
                exact hc
              · exact fin_same rs rep_str h
            · cases ei
          · cases ei
        · cases ei
      · split at ei
        · rename_i l e1
          split at ei
          · rename_i k hk
            obtain ⟨p, vs, ex, hp, r⟩ := seqOf_sq rs rd e1
            obtain ⟨w, hw, rw'⟩ := r.get ei
            have ha : atI vs i = some w := by
              unfold atI
              rw [← ixN_eq, ← r.length, hk]
              exact hw
            have hq : Q w H := fin_same rs rw' h
            rcases hp with hp | hp
            · exact ix_list value slice pins s σ H x y v u Q I rx ry ⟨p, vs, i, w, ex, ey, sq_of hp, ha, hq⟩ hs
            · exact ix_tup value slice pins s σ H x y v u Q I rx ry ⟨p, vs, i, w, ex, ey, by rw [hK]; exact hp, ha, hq⟩ hs
          · cases ei
        · cases ei
    · cases ei
end
end Ev
end
section
set_option maxRecDepth 100000
set_option maxHeartbeats 4000000
/-! Ev, part 6: slices, isinstance, built-in functions and methods, stores. -/
namespace Ev
open PySem PySem.Spec PyProof.Rows L2
section
variable {G : Pg} {X : Cx} {m : List Addr} {H : Hp} {S : Store}
theorem noEx_slc (b : Bool) (d : D) (lo hi : Option Int) (S : Store) : NoEx (slcD b d lo hi S) := by
  intro c k S' h
  unfold slcD at h
  repeat' split at h
  all_goals first
    | (cases h; done)
    | exact noEx_mkL _ _ _ _ _ _ h
theorem sIx_eq (n d : Nat) (o : Option Int) : sIx n d o = HT.sIx n d o := by cases o <;> rfl
theorem cutS_eq (l : List Nat) (lo hi : Option Int) : cutS ⟨l.toArray⟩ lo hi = ⟨(cut l lo hi).toArray⟩ := by
  unfold cutS cut
  simp only [str_len, sIx_eq, List.toList_toArray]
/-- s[lo:hi] -/
theorem op_slc (hK : X.K = G.K) (b : Bool) : SlR X (fun x lo hi H Q => (∃ m S d, RS G m H S ∧ Rep G m H d x ∧ (∀ s, d = .str s → s.length ≤ LIM) ∧ FinV G (Rep G) m H (slcD b d lo hi S) Q)) := by
  intro pins s σ H x v vl vu lo hi sl Q I rx hs pl pu ⟨m, S, d, rs, rd, hz, h⟩
  unfold slcD at h
  split at h
  · rename_i l
    obtain ⟨p, vs, rfl, f, r⟩ := rd.tup_inv
    refine sl_tupA pins s σ H _ v vl vu lo hi sl Q I rx hs pl pu ⟨p, vs, rfl, by rw [hK]; exact f.sq, fun hw => ?_, fun _ q n => fin_tup rs (r.cut lo hi) n h⟩
    have e : cutV vs lo hi = vs := by
      unfold cutV
      rw [hw.1, hw.2]
      simp
    have r2 := r.cut lo hi
    rw [e] at r2
    exact fin_same rs (rep_tup f r2) h
  · rename_i l
    rw [if_pos (hz _ rfl)] at h
    refine sl_str pins s σ H x v vl vu lo hi sl Q I rx hs pl pu ⟨_, rd.str_inv, ?_, ?_⟩
    · rw [str_len, ← lim]; exact hz _ rfl
    · rw [cutS_eq]
      exact fin_same rs rep_str h
  · split at h
    · rename_i l e
      obtain ⟨p, vs, rfl, hp, r⟩ := lstOf_sq rs rd e
      exact sl_list pins s σ H _ v vl vu lo hi sl Q I rx hs pl pu ⟨p, vs, rfl, sq_of hp, fun q n => fin_mk rs (r.cut lo hi) n h⟩
    · exact h.elim
/-! #### isinstance -/
def Bt.nm : Bt → String
  | .int => "int" | .bool => "bool" | .str => "str" | .tuple => "tuple" | .list => "list" | .dict => "dict"
/-- the class at C, as isinstance and the walks ask it -/
structure ClsOk (G : Pg) (c : Nat) : Prop where
  cls : Cls G.K (G.ca c)
  ga : PySem.W.findIn G.K (.ref (G.ca c)) "__class__" = some (some (.builtin "object.__class__"))
  gs : PySem.W.specialIn G.K (.builtin "object.__class__") "__get__" = some (some (.builtin "getset_descriptor.__get__"))
  tk : PySem.W.takesIn G.K (.builtin "object.__class__") = some true
  mo : PySem.W.mroIn G.K (G.ca c) (.type "object") = some true
  bt : ∀ t : Bt, PySem.W.kitOne G.K (.ref (G.ca c)) (.type t.nm) = some false
  oc : ∀ k, k < G.T.cls.length → PySem.W.kitOne G.K (.ref (G.ca c)) (.ref (G.ca k)) = some (c == k)
  ty : ∀ n : String, n ∈ ["NoneType", "bool", "int", "str", "tuple", "list", "dict"] → PySem.W.kitOne G.K (.type n) (.ref (G.ca c)) = some false
/-- what of the classes is known -/
def AllCls (G : Pg) : Prop := ∀ c, c < G.T.cls.length → ClsOk G c
def Ty.val (G : Pg) : Ty → V
  | .b t => .ty t.nm
  | .c k => .ref (G.ca k)
def Ty.vlu (G : Pg) : Ty → Value
  | .b t => .type t.nm
  | .c k => .ref (G.ca k)
theorem ty_clsV (t : Ty) : ClsV (t.val G) (t.vlu G) := by
  cases t with
  | b t => exact .ty _
  | c k => exact .own _
/-- the built-in type of a value that is no instance -/
def tyN (d : D) (S : Store) : Option String := match d with
  | .non => some "NoneType"
  | .bl _ => some "bool"
  | .int _ => some "int"
  | .str _ => some "str"
  | .tup _ => some "tuple"
  | .lst _ => some "list"
  | .ref n => match S[n]? with
    | some (.lst _) => some "list"
    | _ => none
  | .obj _ _ => none
theorem tyN_tyx {d : D} {v : V} {n : String} (rs : RS G m H S) (r : Rep G m H d v) (h : tyN d S = some n) : TyX G.K H v (.type n) := by
  unfold tyN at h
  split at h
  · cases h; rw [r.non_inv]; exact .base .non
  · cases h; rw [r.bl_inv]; exact .base (.bl _)
  · cases h; rw [r.int_inv]; exact .base (.int _)
  · cases h; rw [r.str_inv]; exact .base (.str _)
  · cases h
    obtain ⟨p, vs, rfl, f, _⟩ := r.tup_inv
    rcases f with ⟨_, f | ⟨o, f⟩⟩ | ⟨o, its, k, e, c, _⟩
    · exact .base (.tup f)
    · exact .fTuple f
    · exact .kTuple e c
  · cases h
    obtain ⟨p, vs, rfl, f, _⟩ := r.lst_inv
    rcases f with ⟨_, f | ⟨o, f⟩⟩
    · exact .base (.lst f)
    · exact .base (.frz f)
  · split at h
    · rename_i l e
      cases h
      obtain ⟨p, rfl, hp⟩ := r.ref_inv
      obtain ⟨p', hp', vs, hv, _⟩ := rs.cel _ _ e
      rw [hp] at hp'; cases hp'
      exact .base (.lst hv)
    · cases h
  · cases h
theorem tyN_mem {d : D} {n : String} (h : tyN d S = some n) : n ∈ ["NoneType", "bool", "int", "str", "tuple", "list", "dict"] := by
  unfold tyN at h
  repeat' split at h
  all_goals first
    | (cases h; decide)
    | (cases h; done)
/-- an instance: its class -/
def insC (d : D) (S : Store) : Option Nat := match d with
  | .obj c _ => some c
  | .ref n => match S[n]? with
    | some (.ins c _) => some c
    | _ => none
  | _ => none
theorem insC_at {d : D} {v : V} {c : Nat} (rs : RS G m H S) (r : Rep G m H d v) (h : insC d S = some c) : ∃ p dx fs, v = .ref p ∧ H p = some (.ins (G.ca c) dx fs) := by
  unfold insC at h
  split at h
  · cases h
    obtain ⟨p, vs, rfl, ⟨_, dx, f⟩, _⟩ := r.obj_inv
    exact ⟨p, dx, _, rfl, f⟩
  · split at h
    · rename_i c' fs e
      cases h
      obtain ⟨p, rfl, hp⟩ := r.ref_inv
      obtain ⟨p', hp', dx, vs, hv, _⟩ := rs.cel _ _ e
      rw [hp] at hp'; cases hp'
      exact ⟨p, dx, _, rfl, hv⟩
    · cases h
  · cases h
theorem ins_tyx {v : V} {c : Nat} (k : ClsOk G c) {p dx : Addr} {fs : List (Str × V)} (e : v = .ref p) (h : H p = some (.ins (G.ca c) dx fs)) : TyX G.K H v (.ref (G.ca c)) := by
  subst e
  exact .base (.ins h k.cls k.ga k.gs k.tk k.mo)
/-- no instance, no built-in value: then isD tells nothing -/
theorem isD_some {d : D} {t : Ty} {b : Bool} (h : isD G.T d S t = some b) : (∃ n, tyN d S = some n ∧ insC d S = none) ∨ ∃ c, insC d S = some c ∧ c < G.T.cls.length ∧ tyN d S = none := by
  unfold isD at h
  cases d with
  | ref z =>
    cases t with
    | b t =>
      dsimp only at h
      split at h
      · rename_i l e; exact .inl ⟨"list", by simp only [tyN, e], by simp only [insC, e]⟩
      · rename_i c fs e
        split at h
        · rename_i hc; exact .inr ⟨c, by simp only [insC, e], hc, by simp only [tyN, e]⟩
        · cases h
      · cases h
      · cases h
    | c k =>
      dsimp only at h
      split at h
      · split at h
        · rename_i l e; exact .inl ⟨"list", by simp only [tyN, e], by simp only [insC, e]⟩
        · rename_i c fs e
          split at h
          · rename_i hc; exact .inr ⟨c, by simp only [insC, e], hc, by simp only [tyN, e]⟩
          · cases h
        · cases h
        · cases h
      · cases h
  | obj c l =>
    cases t with
    | b t =>
      dsimp only at h
      split at h
      · rename_i hc; exact .inr ⟨c, rfl, hc, rfl⟩
      · cases h
    | c k =>
      dsimp only at h
      split at h
      · split at h
        · rename_i hc; exact .inr ⟨c, rfl, hc, rfl⟩
        · cases h
      · cases h
  | non => exact .inl ⟨_, rfl, rfl⟩
  | bl _ => exact .inl ⟨_, rfl, rfl⟩
  | int _ => exact .inl ⟨_, rfl, rfl⟩
  | str _ => exact .inl ⟨_, rfl, rfl⟩
  | tup _ => exact .inl ⟨_, rfl, rfl⟩
  | lst _ => exact .inl ⟨_, rfl, rfl⟩
/-- the class that isinstance looks at -/
def clV (G : Pg) (d : D) (S : Store) : Value := match tyN d S with
  | some n => .type n
  | none => match insC d S with
    | some c => .ref (G.ca c)
    | none => .none
theorem clV_tyx (ac : AllCls G) {d : D} {v : V} {t : Ty} {b : Bool} (rs : RS G m H S) (r : Rep G m H d v) (h : isD G.T d S t = some b) : TyX G.K H v (clV G d S) := by
  rcases isD_some h with ⟨n, hn, _⟩ | ⟨c, hi, hc, hn⟩
  · unfold clV
    rw [hn]
    exact tyN_tyx rs r hn
  · unfold clV
    rw [hn, hi]
    obtain ⟨p, dx, fs, ev, hp⟩ := insC_at rs r hi
    exact ins_tyx (ac c hc) ev hp
theorem isD_kit (ac : AllCls G) {d : D} {t : Ty} {b : Bool} (h : isD G.T d S t = some b) : PySem.W.kitOne G.K (clV G d S) (t.vlu G) = some b := by
  rcases isD_some h with ⟨n, hn, _⟩ | ⟨c, hi, hc, hn⟩
  · unfold clV
    rw [hn]
    cases t with
    | b t =>
      show PySem.W.kitOne G.K (.type n) (.type t.nm) = some b
      unfold isD at h
      unfold tyN at hn
      cases d with
      | non => cases hn; cases h; cases t <;> exact kit_ty (by decide +kernel)
      | bl z => cases hn; cases h; cases t <;> exact kit_ty (by decide +kernel)
      | int z => cases hn; cases h; cases t <;> exact kit_ty (by decide +kernel)
      | str z => cases hn; cases h; cases t <;> exact kit_ty (by decide +kernel)
      | tup z => cases hn; cases h; cases t <;> exact kit_ty (by decide +kernel)
      | lst z => cases hn; cases h; cases t <;> exact kit_ty (by decide +kernel)
      | ref z =>
        dsimp only at h hn
        split at hn
        · rename_i l e
          rw [e] at h
          cases hn; cases h; cases t <;> exact kit_ty (by decide +kernel)
        · cases hn
      | obj c l => cases hn
    | c k =>
      show PySem.W.kitOne G.K (.type n) (.ref (G.ca k)) = some b
      have hb : b = false ∧ k < G.T.cls.length := by
        unfold isD at h
        unfold tyN at hn
        dsimp only at h
        split at h
        · rename_i hk
          refine ⟨?_, hk⟩
          cases d with
          | ref z =>
            dsimp only at h hn
            split at hn
            · rename_i l e
              rw [e] at h
              cases h; rfl
            · cases hn
          | obj c l => cases hn
          | _ => cases h; rfl
        · cases h
      rw [hb.1]
      exact (ac k hb.2).ty n (tyN_mem hn)
  · unfold clV
    rw [hn, hi]
    cases t with
    | b t =>
      have hb : b = false := by
        unfold insC at hi
        unfold isD at h
        cases d with
        | ref z =>
          dsimp only at h hi
          split at hi
          · rename_i c' fs' e
            cases hi
            rw [e] at h
            dsimp only at h
            rw [if_pos hc] at h
            cases h; rfl
          · cases hi
        | obj c' l =>
          cases hi
          dsimp only at h
          rw [if_pos hc] at h
          cases h; rfl
        | _ => cases hi
      rw [hb]
      exact (ac c hc).bt t
    | c k =>
      have hb : b = (c == k) ∧ k < G.T.cls.length := by
        unfold insC at hi
        unfold isD at h
        dsimp only at h
        split at h
        · rename_i hk
          refine ⟨?_, hk⟩
          cases d with
          | ref z =>
            dsimp only at h hi
            split at hi
            · rename_i c' fs' e
              cases hi
              rw [e] at h
              dsimp only at h
              rw [if_pos hc] at h
              cases h; rfl
            · cases hi
          | obj c' l =>
            cases hi
            dsimp only at h
            rw [if_pos hc] at h
            cases h; rfl
          | _ => cases hi
        · cases h
      rw [hb.1]
      exact (ac c hc).oc k hb.2
theorem isAny_kit (ac : AllCls G) {d : D} : ∀ {ts : List Ty} {b : Bool}, isAny G.T d S ts = some b → PySem.W.kitAny G.K (clV G d S) (ts.map fun t => t.vlu G) = some b
  | [], _, h => by cases h; rfl
  | t :: ts, b, h => by
    unfold isAny at h
    cases e : isD G.T d S t with
    | none => rw [e] at h; cases h
    | some b1 =>
      have q2 := isD_kit ac e
      rw [e] at h
      cases b1 with
      | true => cases h; exact kitAny_cons q2 (fun z => by cases z) fun _ => rfl
      | false => exact kitAny_cons q2 (fun _ => isAny_kit ac h) fun z => by cases z
theorem isAny_tyx (ac : AllCls G) {d : D} {v : V} {t : Ty} {ts : List Ty} {b : Bool} (rs : RS G m H S) (r : Rep G m H d v) (h : isAny G.T d S (t :: ts) = some b) : TyX G.K H v (clV G d S) := by
  unfold isAny at h
  cases e : isD G.T d S t with
  | none => rw [e] at h; cases h
  | some b1 => exact clV_tyx ac rs r e
theorem isAny_one {d : D} {t : Ty} {b : Bool} (h : isAny G.T d S [t] = some b) : isD G.T d S t = some b := by
  unfold isAny at h
  cases e : isD G.T d S t with
  | none => rw [e] at h; cases h
  | some b1 => rw [e] at h; cases b1 <;> (cases h; rfl)
end
end Ev
end
section
set_option maxRecDepth 100000
set_option maxHeartbeats 4000000
/-! Ev, part 7: built-in functions and methods. -/
namespace Ev
open PySem PySem.Spec PyProof.Rows L2
def Bi.val : Bi → Value
  | .len => .builtin "len" | .abs => .builtin "abs" | .min => .builtin "min" | .max => .builtin "max" | .sum => .builtin "sum"
  | .sorted => .builtin "sorted" | .all => .builtin "all" | .any => .builtin "any"
  | .int => .type "int" | .str => .type "str" | .list => .type "list" | .tuple => .type "tuple" | .bool => .type "bool"
def rBi (G : Pg) (b : Bi) (k : Bool) : List V → Hp → VK → Prop := fun vs H Q => ∃ m S ds, RS G m H S ∧ RepL G m H ds vs ∧ FinV G (Rep G) m H (biD b k ds S) Q
section
variable {G : Pg} {X : Cx} {m : List Addr} {H : Hp} {S : Store}
theorem noEx_bi (b : Bi) (k : Bool) (ds : List D) (S : Store) : NoEx (biD b k ds S) := by
  intro c l S' h
  unfold biD at h
  repeat' split at h
  all_goals first
    | (cases h; done)
    | exact noEx_mkL _ _ _ _ _ _ h
theorem ints_of : ∀ {l : List D} {ns : List Int} {vs : List V}, allInt l = some ns → RepL G m H l vs → vs = ns.map V.int ∧ l = ns.map D.int
  | [], ns, vs, h, r => by
    simp only [allInt] at h; cases h
    simp only [RepL] at r; subst r
    exact ⟨rfl, rfl⟩
  | d :: l, ns, vs, h, r => by
    simp only [RepL] at r
    obtain ⟨v, us, rfl, r1, r2⟩ := r
    cases d with
    | int i =>
      simp only [allInt] at h
      cases e : allInt l with
      | none => rw [e] at h; cases h
      | some ms =>
        rw [e] at h; cases h
        obtain ⟨e1, e2⟩ := ints_of e r2
        rw [r1.int_inv, e1]
        exact ⟨rfl, by rw [e2]; rfl⟩
    | _ => simp [allInt] at h
theorem bls_of : ∀ {l : List D} {bs : List Bool} {vs : List V}, allBl l = some bs → RepL G m H l vs → vs = bs.map V.bl
  | [], ns, vs, h, r => by
    simp only [allBl] at h; cases h
    simp only [RepL] at r; subst r
    rfl
  | d :: l, ns, vs, h, r => by
    simp only [RepL] at r
    obtain ⟨v, us, rfl, r1, r2⟩ := r
    cases d with
    | bl i =>
      simp only [allBl] at h
      cases e : allBl l with
      | none => rw [e] at h; cases h
      | some ms =>
        rw [e] at h; cases h
        rw [r1.bl_inv, bls_of e r2]
        rfl
    | _ => simp [allBl] at h
theorem v_ints_inj : ∀ {l r : List Int}, l.map V.int = r.map V.int → l = r
  | [], [], _ => rfl
  | [], _ :: _, h => by simp at h
  | _ :: _, [], h => by simp at h
  | x :: l, y :: r, h => by
    simp only [List.map_cons, List.cons.injEq, V.int.injEq] at h
    rw [h.1, v_ints_inj h.2]
theorem rep_tupI {l : List Int} {v : V} (r : Rep G m H (.tup (l.map .int)) v) : ∃ t, v = V.ref t ∧ SqT G.K H t (l.map V.int) := by
  obtain ⟨p, vs, rfl, f, rl⟩ := r.tup_inv
  have e : allInt (l.map D.int) = some l := by
    clear r rl f
    induction l with
    | nil => rfl
    | cons x l ih => simp [allInt, ih]
  obtain ⟨e1, _⟩ := ints_of e rl
  exact ⟨p, rfl, by rw [← e1]; exact f.sq⟩
inductive F2 {α β : Type} (P : α → β → Prop) : List α → List β → Prop
  | nil : F2 P [] []
  | cons {a : α} {b : β} {l : List α} {r : List β} : P a b → F2 P l r → F2 P (a :: l) (b :: r)
theorem tupsAt : ∀ {l : List D} {ls : List (List Int)} {vs : List V}, allTup l = some ls → RepL G m H l vs → F2 (fun v q => q ≠ [] ∧ Rep G m H (tupI q) v) vs ls
  | [], _, vs, h, r => by
    simp only [allTup] at h; cases h
    simp only [RepL] at r; subst r
    exact .nil
  | d :: l, _, vs, h, r => by
    simp only [RepL] at r
    obtain ⟨v, us, rfl, r1, r2⟩ := r
    cases d with
    | tup k =>
      simp only [allTup] at h
      split at h
      · rename_i x xs q e1 e2
        cases h
        refine .cons ⟨by simp, ?_⟩ (tupsAt e2 r2)
        obtain ⟨p, ws, rfl, f, rl⟩ := r1.tup_inv
        obtain ⟨_, e3⟩ := ints_of e1 rl
        unfold tupI
        rw [← e3]
        exact r1
      · cases h
    | _ => simp [allTup] at h
theorem tups_of {K : PySem.W.Frag} {l : List D} {ls : List (List Int)} {vs : List V} (inj : ∀ t xs ys, SqT G.K H t xs → SqT G.K H t ys → xs = ys) (h : allTup l = some ls) (r : RepL G m H l vs) :
    ∃ k : V → List Int, vs.map k = ls ∧ ∀ x ∈ vs, ∃ t, x = V.ref t ∧ SqT G.K H t ((k x).map V.int) ∧ k x ≠ [] ∧ Rep G m H (tupI (k x)) x := by
  have q := tupsAt h r
  classical
  let k : V → List Int := fun x => if e : ∃ l, Rep G m H (tupI l) x then e.choose else []
  have hk : ∀ x l, Rep G m H (tupI l) x → k x = l := by
    intro x l hl
    have e : ∃ l, Rep G m H (tupI l) x := ⟨l, hl⟩
    have e1 : k x = e.choose := dif_pos e
    rw [e1]
    obtain ⟨t, rfl, a1⟩ := rep_tupI e.choose_spec
    obtain ⟨t', e2, a2⟩ := rep_tupI hl
    cases e2
    exact v_ints_inj (inj _ _ _ a1 a2)
  refine ⟨k, ?_, fun x hx => ?_⟩
  · clear h r
    induction q with
    | nil => rfl
    | cons a _ ih => rw [List.map_cons, hk _ _ a.2, ih]
  · have : ∃ l, l ≠ [] ∧ Rep G m H (tupI l) x := by
      clear h r
      induction q with
      | nil => simp at hx
      | cons a _ ih =>
        rcases List.mem_cons.mp hx with rfl | hx
        · exact ⟨_, a⟩
        · exact ih hx
    obtain ⟨l, h1, h2⟩ := this
    obtain ⟨t, rfl, h3⟩ := rep_tupI h2
    have e := hk _ _ h2
    exact ⟨t, rfl, by rw [e]; exact h3, by rw [e]; exact h1, by rw [e]; exact h2⟩
theorem repTups {k : V → List Int} : ∀ (ys : List V), (∀ y ∈ ys, Rep G m H (tupI (k y)) y) → RepL G m H ((ys.map k).map tupI) ys
  | [], _ => RepL.nil
  | y :: ys, h => RepL.cons (h y List.mem_cons_self) (repTups ys fun z hz => h z (List.mem_cons_of_mem _ hz))
theorem repInts : ∀ (ns : List Int), RepL G m H (ns.map D.int) (ns.map V.int)
  | [] => RepL.nil
  | n :: ns => RepL.cons rep_int (repInts ns)
theorem insI_perm (x : Int) : ∀ l : List Int, (insI x l).Perm (x :: l)
  | [] => List.Perm.refl _
  | y :: r => by
    unfold insI
    split
    · exact List.Perm.refl _
    · exact ((insI_perm x r).cons y).trans (List.Perm.swap x y r)
theorem sortI_perm : ∀ l : List Int, (sortI l).Perm l
  | [] => List.Perm.refl _
  | x :: r => (insI_perm x (sortI r)).trans ((sortI_perm r).cons x)
theorem insI_sorted (x : Int) : ∀ l : List Int, l.Pairwise (· ≤ ·) → (insI x l).Pairwise (· ≤ ·)
  | [], _ => by simp [insI]
  | y :: r, h => by
    unfold insI
    have h1 := List.pairwise_cons.mp h
    split
    · rename_i hxy
      refine List.pairwise_cons.mpr ⟨fun z hz => ?_, h⟩
      rcases List.mem_cons.mp hz with e | hz
      · rw [e]; exact hxy
      · have := h1.1 z hz; omega
    · rename_i hxy
      refine List.pairwise_cons.mpr ⟨fun z hz => ?_, insI_sorted x r h1.2⟩
      have := (insI_perm x r).mem_iff.mp hz
      rcases List.mem_cons.mp this with e | hz
      · omega
      · exact h1.1 z hz
theorem sortI_sorted : ∀ l : List Int, (sortI l).Pairwise (· ≤ ·)
  | [] => List.Pairwise.nil
  | x :: r => insI_sorted x _ (sortI_sorted r)
theorem sortI_uniq {l r : List Int} (p : r.Perm l) (s : r.Pairwise (· ≤ ·)) : r = sortI l :=
  List.Perm.eq_of_pairwise (fun a b _ _ h1 h2 => by omega) s (sortI_sorted l) (p.trans (sortI_perm l).symm)
theorem maxI_spec : ∀ (l : List Int) (a : Int), maxI a l ∈ a :: l ∧ ∀ y ∈ a :: l, y ≤ maxI a l
  | [], a => by simp [maxI]
  | x :: r, a => by
    unfold maxI
    obtain ⟨h1, h2⟩ := maxI_spec r (if x > a then x else a)
    generalize hb : (if x > a then x else a) = b at h1 h2
    have hb2 : (b = x ∨ b = a) ∧ x ≤ b ∧ a ≤ b := by split at hb <;> omega
    have q := h2 b (List.mem_cons_self ..)
    refine ⟨?_, fun y hy => ?_⟩
    · rcases List.mem_cons.mp h1 with e | e
      · rw [e]
        rcases hb2.1 with z | z
        · rw [z]; simp
        · rw [z]; simp
      · simp [e]
    · rcases List.mem_cons.mp hy with e | hy
      · omega
      · rcases List.mem_cons.mp hy with e | hy
        · omega
        · exact h2 y (List.mem_cons_of_mem _ hy)
theorem minI_spec : ∀ (l : List Int) (a : Int), minI a l ∈ a :: l ∧ ∀ y ∈ a :: l, minI a l ≤ y
  | [], a => by simp [minI]
  | x :: r, a => by
    unfold minI
    obtain ⟨h1, h2⟩ := minI_spec r (if x < a then x else a)
    generalize hb : (if x < a then x else a) = b at h1 h2
    have hb2 : (b = x ∨ b = a) ∧ b ≤ x ∧ b ≤ a := by split at hb <;> omega
    have q := h2 b (List.mem_cons_self ..)
    refine ⟨?_, fun y hy => ?_⟩
    · rcases List.mem_cons.mp h1 with e | e
      · rw [e]
        rcases hb2.1 with z | z
        · rw [z]; simp
        · rw [z]; simp
      · simp [e]
    · rcases List.mem_cons.mp hy with e | hy
      · omega
      · rcases List.mem_cons.mp hy with e | hy
        · omega
        · exact h2 y (List.mem_cons_of_mem _ hy)
theorem sumI_eq : ∀ l : List Int, l.sum = sumI l
  | [] => rfl
  | x :: r => by rw [List.sum_cons, sumI_eq r]; rfl
theorem one_inv {d : D} {vs : List V} (r : RepL G m H [d] vs) : ∃ v, vs = [v] ∧ Rep G m H d v := by
  simp only [RepL] at r
  obtain ⟨v, us, rfl, r1, rfl⟩ := r
  exact ⟨v, rfl, r1⟩
theorem two_inv {d e : D} {vs : List V} (r : RepL G m H [d, e] vs) : ∃ v u, vs = [v, u] ∧ Rep G m H d v ∧ Rep G m H e u := by
  simp only [RepL] at r
  obtain ⟨v, us, rfl, r1, u, ws, rfl, r2, rfl⟩ := r
  exact ⟨v, u, rfl, r1, r2⟩
theorem ofInt_str (i : Int) : ((toString i : String) : Str) = ⟨((toString i).toList.map Char.toNat).toArray⟩ := PySem.Str.ofString_eq_toList _
theorem call_bi (hK : X.K = G.K) (hc : X.calm = true) (b : Bi) (k : Bool) : CallR X b.val (rBi G b k) := by
  intro pins s σ H vs us Q I rv ⟨m, S, ds, rs, r, h⟩
  unfold biD at h
  split at h
  · -- len
    rename_i d
    obtain ⟨v, rfl, rd⟩ := one_inv r
    split at h
    · rename_i t
      split at h
      · rename_i hz
        refine call_len_str pins s σ H _ us Q I rv ⟨_, by rw [rd.str_inv], ?_, ?_⟩
        · rw [str_len, ← lim]; exact hz
        · rw [str_len]
          exact fin_same rs rep_int h
      · exact h.elim
    · split at h
      · rename_i l e
        obtain ⟨p, xs, rfl, hp, rl⟩ := seqOf_sq rs rd e
        refine call_len_seq pins s σ H _ us Q I rv ⟨p, xs, rfl, ?_, ?_⟩
        · rcases hp with hp | hp
          · exact .inl (sq_of hp)
          · exact .inr (by rw [hK]; exact hp)
        · rw [← rl.length]
          exact fin_same rs rep_int h
      · exact h.elim
  · -- abs
    obtain ⟨v, rfl, rd⟩ := one_inv r
    exact call_abs pins s σ H _ us Q I rv ⟨_, by rw [rd.int_inv], fin_same rs rep_int h⟩
  · -- min of two
    obtain ⟨v, u, rfl, rd, re⟩ := two_inv r
    exact call_min2 hc pins s σ H _ us Q I rv ⟨_, _, by rw [rd.int_inv, re.int_inv], fin_same rs rep_int h⟩
  · -- max of two
    obtain ⟨v, u, rfl, rd, re⟩ := two_inv r
    exact call_max2 hc pins s σ H _ us Q I rv ⟨_, _, by rw [rd.int_inv, re.int_inv], fin_same rs rep_int h⟩
  · -- min of a list
    obtain ⟨v, rfl, rd⟩ := one_inv r
    split at h
    · rename_i l e
      split at h
      · rename_i x t e2
        obtain ⟨p, xs, rfl, hp, rl⟩ := lstOf_sq rs rd e
        obtain ⟨e3, _⟩ := ints_of e2 rl
        refine cr_min hc pins s σ H _ us Q I rv ⟨p, x :: t, rfl, by rw [← e3]; exact sq_of hp, by simp, fun z h1 h2 => ?_⟩
        obtain ⟨s1, s2⟩ := minI_spec t x
        have : z = minI x t := by
          have a1 := h2 _ s1
          have a2 := s2 z h1
          omega
        rw [this]
        exact fin_same rs rep_int h
      · exact h.elim
    · exact h.elim
  · -- max of a list
    obtain ⟨v, rfl, rd⟩ := one_inv r
    split at h
    · rename_i l e
      split at h
      · rename_i x t e2
        obtain ⟨p, xs, rfl, hp, rl⟩ := lstOf_sq rs rd e
        obtain ⟨e3, _⟩ := ints_of e2 rl
        refine cr_max hc pins s σ H _ us Q I rv ⟨p, x :: t, rfl, by rw [← e3]; exact sq_of hp, by simp, fun z h1 h2 => ?_⟩
        obtain ⟨s1, s2⟩ := maxI_spec t x
        have : z = maxI x t := by
          have a1 := h2 _ s1
          have a2 := s2 z h1
          omega
        rw [this]
        exact fin_same rs rep_int h
      · exact h.elim
    · exact h.elim
  · -- sum
    obtain ⟨v, rfl, rd⟩ := one_inv r
    split at h
    · rename_i l e
      split at h
      · rename_i ns e2
        obtain ⟨p, xs, rfl, hp, rl⟩ := seqOf_sq rs rd e
        obtain ⟨e3, _⟩ := ints_of e2 rl
        have hp' : SqL X.K H p xs ∨ SqT X.K H p xs := by
          rcases hp with hp | hp
          · exact .inl (sq_of hp)
          · exact .inr (by rw [hK]; exact hp)
        refine cr_sum2 hc pins s σ H _ us Q I rv ⟨p, ns, rfl, by rw [← e3]; exact hp', ?_⟩
        rw [sumI_eq]
        exact fin_same rs rep_int h
      · exact h.elim
    · exact h.elim
  · -- sorted
    obtain ⟨v, rfl, rd⟩ := one_inv r
    split at h
    · rename_i l e
      obtain ⟨p, xs, rfl, hp, rl⟩ := seqOf_sq rs rd e
      have hp' : SqL X.K H p xs ∨ SqT X.K H p xs := by
        rcases hp with hp | hp
        · exact .inl (sq_of hp)
        · exact .inr (by rw [hK]; exact hp)
      split at h
      · rename_i ns e2
        obtain ⟨e3, _⟩ := ints_of e2 rl
        refine cr_sortI2 pins s σ H _ us Q I rv ⟨p, ns, rfl, by rw [← e3]; exact hp', fun ns' q h1 h2 hq => ?_⟩
        rw [sortI_uniq h1 h2]
        exact fin_mk rs (repInts _) hq h
      · split at h
        · rename_i ls e2
          obtain ⟨k, hk1, hk2⟩ := tups_of (K := G.K) (fun t l l' h1 h2 => I.tuple_inj (by rw [hK]; exact h1) (by rw [hK]; exact h2)) e2 rl
          refine cr_sortT2 pins s σ H _ us Q I rv ⟨p, xs, k, rfl, hp', fun x hx => ?_, fun ys q h1 h2 hq => ?_⟩
          · obtain ⟨t, e3, e4, e5, _⟩ := hk2 x hx
            exact ⟨t, e3, by rw [hK]; exact e4, e5⟩
          · have e6 : ys.map k = sortT ls := sortT_uniq (by rw [← hk1]; exact h1.map k) h2
            refine fin_mk rs ?_ hq h
            rw [← e6]
            exact repTups ys fun y hy => (hk2 y (h1.mem_iff.mp hy)).choose_spec.2.2.2
        · exact h.elim
    · exact h.elim
  · -- all
    obtain ⟨v, rfl, rd⟩ := one_inv r
    split at h
    · rename_i l e
      split at h
      · rename_i bs e2
        obtain ⟨p, xs, rfl, hp, rl⟩ := lstOf_sq rs rd e
        have e3 := bls_of e2 rl
        exact cr_all hc pins s σ H _ us Q I rv ⟨p, bs, rfl, by rw [← e3]; exact sq_of hp, fin_same rs rep_bl h⟩
      · exact h.elim
    · exact h.elim
  · -- any
    obtain ⟨v, rfl, rd⟩ := one_inv r
    split at h
    · rename_i l e
      split at h
      · rename_i bs e2
        obtain ⟨p, xs, rfl, hp, rl⟩ := lstOf_sq rs rd e
        have e3 := bls_of e2 rl
        exact cr_any hc pins s σ H _ us Q I rv ⟨p, bs, rfl, by rw [← e3]; exact sq_of hp, fin_same rs rep_bl h⟩
      · exact h.elim
    · exact h.elim
  · -- int of an int
    obtain ⟨v, rfl, rd⟩ := one_inv r
    exact call_int1 pins s σ H _ us Q I rv (.inl ⟨_, by rw [rd.int_inv], fin_same rs rep_int h⟩)
  · obtain ⟨v, rfl, rd⟩ := one_inv r
    exact call_int1 pins s σ H _ us Q I rv (.inr ⟨_, by rw [rd.bl_inv], fin_same rs rep_int h⟩)
  · -- str of an int
    obtain ⟨v, rfl, rd⟩ := one_inv r
    split at h
    · rename_i hz
      refine call_str_int pins s σ H _ us Q I rv ⟨_, by rw [rd.int_inv], hz, ?_⟩
      rw [ofInt_str]
      exact fin_same rs rep_str h
    · exact h.elim
  · -- list
    obtain ⟨v, rfl, rd⟩ := one_inv r
    split at h
    · rename_i l e
      obtain ⟨p, xs, rfl, hp, rl⟩ := seqOf_sq rs rd e
      refine call_list_of pins s σ H _ us Q I rv ⟨p, xs, rfl, ?_, fun q hq => fin_mk rs rl hq h⟩
      rcases hp with hp | hp
      · exact .inl (sq_of hp)
      · exact .inr (by rw [hK]; exact hp)
    · exact h.elim
  · -- tuple
    rename_i d
    obtain ⟨v, rfl, rd⟩ := one_inv r
    split at h
    · rename_i l e
      refine call_tuple_of pins s σ H _ us Q I rv ?_
      unfold seqOf at e
      split at e
      · cases e
        obtain ⟨p, xs, rfl, f, rl⟩ := rd.tup_inv
        exact ⟨p, xs, rfl, .inr ⟨by rw [hK]; exact f.sq, fin_same rs (rep_tup f rl) h⟩⟩
      · cases e
        obtain ⟨p, xs, rfl, f, rl⟩ := rd.lst_inv
        exact ⟨p, xs, rfl, .inl ⟨sq_of f.2, fun q hq => fin_tup rs rl hq h⟩⟩
      · split at e
        · rename_i l' e2
          cases e
          obtain ⟨p, rfl, hp⟩ := rd.ref_inv
          obtain ⟨p', hp', xs, hv, rl⟩ := rs.cel _ _ e2
          rw [hp] at hp'; cases hp'
          exact ⟨p, xs, rfl, .inl ⟨.inl (.inl hv), fun q hq => fin_tup rs rl hq h⟩⟩
        · cases e
      · cases e
    · exact h.elim
  · obtain ⟨v, rfl, rd⟩ := one_inv r
    exact call_bool1 pins s σ H _ us Q I rv (.inl ⟨_, by rw [rd.int_inv], fin_same rs rep_bl h⟩)
  · obtain ⟨v, rfl, rd⟩ := one_inv r
    exact call_bool1 pins s σ H _ us Q I rv (.inr ⟨_, by rw [rd.bl_inv], fin_same rs rep_bl h⟩)
  · exact h.elim
/-! #### methods of built-in types -/
def Bm.ty : Bm → String
  | .append => "list" | .pop => "list" | .extend => "list" | .index => "list" | .bitLength => "int"
def Bm.id : Bm → String
  | .append => "list.append" | .pop => "list.pop" | .extend => "list.extend" | .index => "list.index" | .bitLength => "int.bit_length"
def rBm (G : Pg) (b : Bm) : V → List V → Hp → VK → Prop := fun x vs H Q => ∃ m S d ds, RS G m H S ∧ Rep G m H d x ∧ RepL G m H ds vs ∧ FinV G (Rep G) m H (bmD b d ds S) Q
theorem noEx_bm (b : Bm) (d : D) (ds : List D) (S : Store) : NoEx (bmD b d ds S) := by
  intro c l S' h
  unfold bmD at h
  repeat' split at h
  all_goals first
    | (cases h; done)
    | exact noEx_mkL _ _ _ _ _ _ h
theorem cell_lst {n : Nat} {l : List D} {v : V} (rs : RS G m H S) (r : Rep G m H (.ref n) v) (e : S[n]? = some (.lst l)) : ∃ p vs, v = .ref p ∧ m[n]? = some p ∧ H p = some (.lst vs) ∧ RepL G m H l vs := by
  obtain ⟨p, rfl, hp⟩ := r.ref_inv
  obtain ⟨p', hp', vs, hv, rl⟩ := rs.cel _ _ e
  rw [hp] at hp'; cases hp'
  exact ⟨p, vs, rfl, hp, hv, rl⟩
/-- a cell's list is written anew -/
theorem fin_put {α β : Type} {R : List Addr → Hp → α → β → Prop} {a : α} {b : β} {n : Nat} {p : Addr} {l : List D} {vs : List V} {Q : β → Hp → Prop} (rs : RS G m H S) (hp : m[n]? = some p) (r : RepL G m H l vs) (nf : NF H p) (q : R m (upd H p (.lst vs)) a b) (h : FinV G R m H (.ok a (S.set n (.lst l))) Q) : Q b (upd H p (.lst vs)) := by
  have x : Ext m H m (upd H p (.lst vs)) := Ext.write (List.mem_of_getElem? hp) nf
  exact h m _ b x (rs.write nf hp ⟨vs, upd_same, RepL.mono x _ _ r⟩) q
theorem mt_bm (b : Bm) : MtR X b.id (rBm G b) := by
  intro pins s σ H x vs v us Q I rx rv ⟨m, S, d, ds, rs, rd, r, h⟩
  unfold bmD at h
  split at h
  · -- append
    rename_i e
    obtain ⟨y, rfl, re⟩ := one_inv r
    split at h
    · rename_i n
      split at h
      · rename_i l el
        split at h
        · rename_i hz
          obtain ⟨p, xs, rfl, hp, hv, rl⟩ := cell_lst rs rd el
          refine mt_append pins s σ H _ _ v us Q I rx rv ⟨p, xs, y, rfl, rfl, hv, ?_, fin_put rs hp (rl.append (RepL.cons re RepL.nil)) (NF.of hv fun _ _ z => nomatch z) rep_non h⟩
          rw [← rl.length, ← lim]; exact hz
        · exact h.elim
      · exact h.elim
    · exact h.elim
  · -- pop
    have ev : vs = [] := by simpa only [RepL] using r
    subst ev
    split at h
    · rename_i n
      split at h
      · rename_i l el
        split at h
        · rename_i e he
          obtain ⟨p, xs, rfl, hp, hv, rl⟩ := cell_lst rs rd el
          obtain ⟨y, hy, ry⟩ := rl.get he
          refine mt_pop pins s σ H _ _ v us Q I rx rv ⟨p, xs, y, rfl, rfl, hv, by rw [← rl.length]; exact hy, fin_put rs hp rl.dropLast (NF.of hv fun _ _ z => nomatch z) (Rep.mono (Ext.write (List.mem_of_getElem? hp) (NF.of hv fun _ _ z => nomatch z)) _ _ ry) h⟩
        · exact h.elim
      · exact h.elim
    · exact h.elim
  · -- bit_length
    have ev : vs = [] := by simpa only [RepL] using r
    subst ev
    split at h
    · have ex := rd.int_inv
      subst ex
      obtain ⟨t, rfl⟩ := rx
      cases rv
      exact call_int_bit_length ⟨.int _, H, I.tok _, ⟨_, rfl⟩, fin_same rs rep_int h⟩
    · exact h.elim
  · exact h.elim
/-- the receiver is of the method's type -/
theorem bm_ty {b : Bm} {d : D} {v : V} {K : PySem.W.Frag} (rs : RS G m H S) (r : Rep G m H d v) (h : bmOk b d S = true) : tyV K b.ty v H := by
  have cl : ∀ {n : Nat} {T : String} {Z : Prop}, d = .ref n → T = "list" → (match S[n]? with
      | some (.lst _) => true
      | _ => false) = true → tyV K T v H := fun {n T Z} e eT hm => by
    subst e eT
    split at hm
    · rename_i l el
      obtain ⟨p, vs, rfl, hp, hv, rl⟩ := cell_lst rs r el
      exact .inl ⟨rfl, vs, .inl (.inl hv)⟩
    · cases hm
  unfold bmOk at h
  split at h
  · split at h
    · rw [r.int_inv]; rfl
    · cases h
  · split at h
    · obtain ⟨p, vs, rfl, f, rl⟩ := r.lst_inv
      exact .inl ⟨rfl, vs, .inl f.2⟩
    · exact cl (Z := True) rfl rfl h
    · cases h
  · split at h
    · rename_i n1 n2 _ n
      have hb : b.ty = "list" := by cases b <;> first | rfl | exact (n1 rfl).elim | exact (n2 rfl).elim
      exact cl (Z := True) rfl hb h
    · cases h
/-! #### o[i] = v -/
theorem set_cell : PSet X (fun o i v H Q => ∃ m S d k x S', RS G m H S ∧ Rep G m H d o ∧ Rep G m H k i ∧ Rep G m H x v ∧ setI d k x S = some S' ∧ ∀ H', Ext m H m H' → RS G m H' S' → Q H') := by
  intro pins s σ H o i v ov iv u Q I ro ri rv ⟨m, S, d, k, x, S', rs, rd, rk, rx, e, q⟩
  unfold setI at e
  split at e
  · rename_i n j
    split at e
    · rename_i l el
      split at e
      · rename_i a ha
        cases e
        obtain ⟨p, xs, rfl, hp, hv, rl⟩ := cell_lst rs rd el
        have ei := rk.int_inv
        subst ei
        refine set_list pins s σ H _ _ v ov iv u Q I ro ri rv ⟨p, xs, j, a, rfl, rfl, hv, by rw [← rl.length, ← ixN_eq]; exact ha, ?_⟩
        have nf : NF H p := NF.of hv fun _ _ z => nomatch z
        have x : Ext m H m (upd H p (.lst (xs.set a v))) := Ext.write (List.mem_of_getElem? hp) nf
        exact q _ x (rs.write nf hp ⟨_, upd_same, RepL.mono x _ _ (rl.set rx a)⟩)
      · cases e
    · cases e
  · cases e
end
end Ev
end
section
set_option maxRecDepth 100000
set_option maxHeartbeats 4000000
/-! Ev, part 8: what stands around an expression; readings. -/
namespace Ev
open PySem PySem.Spec PyProof.Rows L2
/-- how keywords find their parameters -/
def KwOk (K : PySem.W.Frag) (fd : FuncData) (ps : List Str) (n : Nat) (ks : List Str) (pm : List Nat) : Prop :=
  ∀ (s : Shared) (us ws : List Value), K.In s.heap → us.length = n → ws.length = ks.length → ∃ xs, pick (us ++ ws) pm = some xs ∧ BindsTo s fd ⟨us, ks.zip ws⟩ (ps.zip xs)
/-- .. of an __init__: self ahead -/
def KwOkC (K : PySem.W.Frag) (fd : FuncData) (ps : List Str) (n : Nat) (ks : List Str) (pm : List Nat) : Prop :=
  ∀ (s : Shared) (z : Value) (us ws : List Value), K.In s.heap → us.length = n → ws.length = ks.length → ∃ xs, pick (us ++ ws) pm = some xs ∧ BindsTo s fd ⟨z :: us, ks.zip ws⟩ (ps.zip (z :: xs))
/-- a constant of the module -/
def GlbOk (G : Pg) (x : Str) (d : D) : Prop := ∃ u v, G.mg x = some u ∧ RelV v u ∧ ∀ m H, Rep G m H d v
def bltL : List Str := ["len", "abs", "min", "max", "sum", "sorted", "all", "any", "int", "str", "list", "tuple", "bool", "dict", "isinstance", "range", "enumerate", "zip", "reversed"]
/-- what the head gives: the classes, the functions, the constants -/
structure Hd (G : Pg) : Prop where
  cls : AllCls G
  mgb : ∀ x ∈ bltL, G.mg x = none
  atl : ∀ x ∈ G.M.atts, x.length < 1000
  atn : G.M.atts.Nodup
  fn : ∀ (f : Nat) (x : Str), G.M.fns[f]? = some x → x ≠ "" → G.mg x = some (.ref (G.fa f)) ∧ PySem.W.keepIn G.K (.ref (G.fa f)) = true
  fnl : ∀ f, f < G.M.fns.length → f < G.T.fns.length
  pos : ∀ f, f < G.T.fns.length → Binds G.K (G.fd f) (G.ps f) []
  kw : ∀ f n ks pm, (f, n, ks, pm) ∈ G.M.kws → f < G.T.fns.length ∧ KwOk G.K (G.fd f) (G.ps f) n ks pm
  ckw : ∀ c n ks pm C f, (c, n, ks, pm) ∈ G.M.ckw → G.T.cls[c]? = some C → C.init = some f → KwOkC G.K (G.fd f) (G.ps f) n ks pm
  na : ∀ c f, (fldsOf G.T c).contains f = true → NoAttr G.K (G.ca c) (G.att f)
  glb : ∀ (g : Nat) (x : Str), G.M.glb[g]? = some x → ∃ d, G.T.glb[g]? = some d ∧ GlbOk G x d
  cmg : ∀ (c : Nat) (x : Str), G.M.cls[c]? = some x → c < G.T.cls.length ∧ G.mg x = some (.ref (G.ca c))
  ini : ∀ (c : Nat) (C : Cl), G.T.cls[c]? = some C → ∃ f, C.init = some f
  mak : ∀ c C f, G.T.cls[c]? = some C → C.init = some f → f < G.T.fns.length ∧ Mk G.K (G.ca c) (G.fa f)
  mth : ∀ c C a f, G.T.cls[c]? = some C → lookN a C.mths = some f → f < G.T.fns.length ∧ Meth G.K (G.ca c) (G.att a) (G.fa f)
/-- a def's promise at level n -/
def spF (G : Pg) (n f : Nat) : Sp := fun vs H Q E => vs.length = (G.ps f).length ∧ ∃ m S ds, RS G m H S ∧ RepL G m H ds vs ∧
  Fin G (fun c d _ H => E c d H) [] (Rep G) m H (run G.T n f ds S) fun _ _ _ H' v => Q v H'
def LvOk (G : Pg) (n : Nat) : Prop := ∀ f, f < G.T.fns.length → FnOk G.P G.w G.K G.mg G.base (L2.CX G.P G.w) n (G.fa f) (G.fd f) (G.ps f) (spF G n f)
/-- what stands around an expression -/
structure Ctx (G : Pg) (n : Nat) (X : Cx) (s : Sx) (W : WX) : Prop where
  prog : X.prog = G.P
  w : X.w = G.w
  K : X.K = G.K
  mg : X.mg = G.mg
  base : X.base = G.base
  N : X.N = s.N
  nd : s.N.Nodup
  sc : X.env.scope = s.sc
  fn : ∀ x, s.sc.names.lookup x = some .cell → (∀ b, s.blk = some b → b.names.lookup x = some .cell) → X.fn x = true
  calm : X.calm = true
  tk : Takes X W
  room : Room n X.A
  lv : LvOk G n
  lv1 : ∀ k, n = k + 1 → LvOk G k
theorem Ctx.units {G : Pg} {n : Nat} {X : Cx} {s : Sx} {W : WX} (c : Ctx G n X s W) : X.A.units + 65 < cLine := by
  have := c.room.un; omega

/-! #### readings -/
def RB (_ : List Addr) (_ : Hp) (a b : Bool) : Prop := a = b
def RO (_ : List Addr) (_ : Hp) (a b : Option Int) : Prop := a = b
section
variable {G : Pg} {W : WX} {σ : L2.St} {m m' : List Addr} {H H' : Hp} {S : Store} {ρ : Fr}
def tX (G : Pg) (W : WX) {α β : Type} (R : List Addr → Hp → α → β → Prop) (ev : Fr → Store → Rs α) (σ : L2.St) (H : Hp) (Q : β → Hp → Prop) : Prop :=
  ∃ m ρ S, RE G m H ρ σ ∧ RS G m H S ∧ Fin G W σ R m H (ev ρ S) fun _ _ _ H' v => Q v H'
theorem tX.go {α β γ δ : Type} {R : List Addr → Hp → α → β → Prop} {R' : List Addr → Hp → γ → δ → Prop} {ev : Fr → Store → Rs α} {k : α → Store → Rs γ} {t : Tag k} {Q : δ → Hp → Prop} {Q' : β → Hp → Prop} (re : RE G m H ρ σ) (rs : RS G m H S)
    (h : Fin G W σ R' m H ((ev ρ S).th k t) fun _ _ _ H' v => Q v H')
    (q : ∀ a S' m' H' v, Ext m H m' H' → RE G m' H' ρ σ → RS G m' H' S' → R m' H' a v → (Fin G W σ R' m' H' (k a S') fun _ _ _ H' v => Q v H') → Q' v H') : tX G W R ev σ H Q' :=
  ⟨m, ρ, S, re, rs, (Fin.th (R := R) h).imp fun a S' m' H' v x rs' r f => q a S' m' H' v x (re.mono x) rs' r f⟩
theorem tX.goe {α β γ δ : Type} {R : List Addr → Hp → α → β → Prop} {R' : List Addr → Hp → γ → δ → Prop} {ev : Fr → Store → Rs α} {k : α → Store → Rs γ} {t : Tag k} {Q : δ → Hp → Prop} {Q' : β → Hp → Prop} (re : RE G m H ρ σ) (rs : RS G m H S)
    (h : Fin G W σ R' m H ((ev ρ S).th k t) fun _ _ _ H' v => Q v H')
    (q : ∀ a S' m' H' v, ev ρ S = .ok a S' → Ext m H m' H' → RE G m' H' ρ σ → RS G m' H' S' → R m' H' a v → (Fin G W σ R' m' H' (k a S') fun _ _ _ H' v => Q v H') → Q' v H') : tX G W R ev σ H Q' :=
  ⟨m, ρ, S, re, rs, by
    cases e : ev ρ S with
    | ok a S' =>
      rw [e] at h
      intro m' H' v x rs' r
      exact q a S' m' H' v e x (re.mono x) rs' r (Fin.ext x h)
    | ex c l S' => rw [e] at h; exact h
    | bad => rw [e] at h; exact h⟩
theorem tX.same {α β : Type} {R : List Addr → Hp → α → β → Prop} {ev : Fr → Store → Rs α} {Q : β → Hp → Prop} (re : RE G m H ρ σ) (rs : RS G m H S)
    (h : Fin G W σ R m H (ev ρ S) fun _ _ _ H' v => Q v H') : tX G W R ev σ H Q := ⟨m, ρ, S, re, rs, h⟩
theorem Fin.at_ok {α β : Type} {R : List Addr → Hp → α → β → Prop} {a : α} {v : β} {K : α → Store → List Addr → Hp → β → Prop} (rs : RS G m H S) (r : R m H a v) (h : Fin G W σ R m H (.ok a S) K) : K a S m H v := h m H v Ext.refl rs r
/-- .. of an option -/
theorem Fin.at_o {α γ δ : Type} {R' : List Addr → Hp → γ → δ → Prop} {o : Option α} {k : α → Store → Rs γ} {t : Tag k} {K : γ → Store → List Addr → Hp → δ → Prop} (h : Fin G W σ R' m H ((ofO o S).th k t) K) :
    ∃ a, o = some a ∧ Fin G W σ R' m H (k a S) K := by
  cases o with
  | none => exact h.elim
  | some a => exact ⟨a, rfl, h⟩
theorem Fin.at_oe {α β : Type} {R : List Addr → Hp → α → β → Prop} {o : Option α} {K : α → Store → List Addr → Hp → β → Prop} (h : Fin G W σ R m H (ofO o S) K) : ∃ a, o = some a ∧ Fin G W σ R m H (.ok a S) K := by
  cases o with
  | none => exact h.elim
  | some a => exact ⟨a, rfl, h⟩
end
abbrev tE (G : Pg) (W : WX) (ev : Fr → Store → Rs D) : TE := tX G W (Rep G) ev
abbrev tL (G : Pg) (W : WX) (ev : Fr → Store → Rs (List D)) : TA := tX G W (RepL G) ev
abbrev tT (G : Pg) (W : WX) (ev : Fr → Store → Rs Bool) : TT := tX G W RB ev
abbrev tI (G : Pg) (W : WX) (ev : Fr → Store → Rs (Option Int)) : TO := tX G W RO ev
section
variable {X : Cx}
theorem pe_imp {e : Expr} {t t' : TE} (h : PE X e t) (i : ∀ σ H Q, t' σ H Q → t σ H Q) : PE X e t' := ⟨fun pins s σ H Q I q => h.run pins s σ H Q I (i σ H Q q)⟩
theorem pt_imp {e : Expr} {t t' : TT} (h : PT X e t) (i : ∀ σ H Q, t' σ H Q → t σ H Q) : PT X e t' := ⟨fun pins s σ H Q I q => h.run pins s σ H Q I (i σ H Q q)⟩
theorem pw_imp {e : Expr} {t t' : TT} (h : PW X e t) (i : ∀ σ H Q, t' σ H Q → t σ H Q) : PW X e t' := ⟨fun wh pins s σ H Q I q => h.run wh pins s σ H Q I (i σ H Q q)⟩
theorem pa_imp {es : List Expr} {t t' : TA} (h : PA X es t) (i : ∀ σ H Q, t' σ H Q → t σ H Q) : PA X es t' := ⟨fun pos pins s σ H Q I q => h.run pos pins s σ H Q I (i σ H Q q)⟩
theorem pk_imp {es : List Keyword} {t t' : TA} (h : PK X es t) (i : ∀ σ H Q, t' σ H Q → t σ H Q) : PK X es t' := ⟨fun pos pins s σ H Q I q => h.run pos pins s σ H Q I (i σ H Q q)⟩
theorem po_imp {e : Option Expr} {t t' : TO} (h : PO X e t) (i : ∀ σ H Q, t' σ H Q → t σ H Q) : PO X e t' := ⟨fun pins s σ H Q I q => h.run pins s σ H Q I (i σ H Q q)⟩
theorem pe_bad {e : Expr} {t : TE} (i : ∀ σ H Q, ¬ t σ H Q) : PE X e t := ⟨fun pins s σ H Q I q => (i σ H Q q).elim⟩
theorem pt_bad {e : Expr} {t : TT} (i : ∀ σ H Q, ¬ t σ H Q) : PT X e t := ⟨fun pins s σ H Q I q => (i σ H Q q).elim⟩
end
/-! #### names -/
section
variable {G : Pg} {n : Nat} {X : Cx} {s : Sx} {W : WX}
theorem Ctx.glo (c : Ctx G n X s W) {x : Str} (h : gloB s x = true) : Gl X x ∧ (x == ("__debug__" : Str)) = false ∧ x ≠ "__name__" ∧ x ≠ "super" ∧ x ≠ "" := by
  unfold gloB at h
  simp only [Bool.and_eq_true, Bool.not_eq_true'] at h
  obtain ⟨⟨⟨⟨h1, h2⟩, h3⟩, h4⟩, h5⟩ := h
  refine ⟨?_, h2, fun e => ?_, fun e => ?_, fun e => ?_⟩
  · show X.env.scope.names.lookup x = _
    rw [c.sc]
    split at h1
    · assumption
    · cases h1
  · rw [e] at h3; revert h3; decide
  · rw [e] at h4; revert h4; decide
  · rw [e] at h5; revert h5; decide
theorem Ctx.see (c : Ctx G n X s W) {i : Nat} {x : Str} (h : seeB s i x = true) : X.N[i]? = some x ∧ Vis X.env.scope x ∧ (x == ("__debug__" : Str)) = false ∧ (x == ("__classdict__" : Str)) = false := by
  unfold seeB at h
  simp only [Bool.and_eq_true, Bool.not_eq_true', decide_eq_true_eq] at h
  obtain ⟨⟨⟨h1, h2⟩, h3⟩, h4⟩ := h
  refine ⟨by rw [c.N]; exact h1, ?_, h2, h3⟩
  unfold Vis
  rw [c.sc]
  split at h4
  · exact .inl (by assumption)
  · exact .inr (.inl (by assumption))
  · exact .inr (.inr (by assumption))
  · cases h4
theorem Ctx.put (c : Ctx G n X s W) {i : Nat} {x : Str} (h : putB s i x = true) : X.N[i]? = some x ∧ L2.Loc X.env.scope x ∧ (X.fn x = true ∨ X.env.scope.names.lookup x = some .local) := by
  unfold putB at h
  simp only [Bool.and_eq_true, decide_eq_true_eq] at h
  obtain ⟨h1, h2⟩ := h
  refine ⟨by rw [c.N]; exact h1, ?_⟩
  unfold L2.Loc
  rw [c.sc]
  split at h2
  · rename_i e
    exact ⟨.inl e, .inr e⟩
  · rename_i e
    refine ⟨.inr e, .inl (c.fn x e fun b hb => ?_)⟩
    rw [hb] at h2
    simpa using h2
  · cases h2
theorem Ctx.nN (c : Ctx G n X s W) : X.N.Nodup := by rw [c.N]; exact c.nd
end
/-! #### no star, no super() -/
def noStar : Expr → Bool
  | .Starred _ _ => false
  | _ => true
def noSup : Expr → Bool
  | .Call (.Name x _) [] [] _ => !(x == ("super" : Str))
  | _ => true
def noSet : Expr → Bool
  | .Set _ _ _ => false
  | _ => true
theorem star_of {e : Expr} {es : List Expr} {env : Env} (h : noStar e = true) : starEach (e :: es) env = (false, eval e env) :: starEach es env := by
  cases e <;> first | rfl | (simp [noStar] at h)
theorem any_star : ∀ {es : List Expr} {env : Env} {pos : Pos}, es.all noStar = true → (backTo pos (starEach es env)).any (·.1) = false
  | [], _, _, _ => rfl
  | e :: es, env, pos, h => by
    simp only [List.all_cons, Bool.and_eq_true] at h
    rw [star_of h.1]
    have := any_star (env := env) (pos := pos) h.2
    show (false || (backTo pos (starEach es env)).any (·.1)) = false
    rw [this]; rfl
theorem marks_of {op : CmpOp} {e : Expr} (h : noSet e = true) : behindInMarks op e = false := by
  cases e <;> first | rfl | (simp [noSet] at h)
theorem ix_of {b : Expr} (h : notSlice b = true) : PlainIx b := by
  cases b <;> first | (intro o i; rfl) | (simp [notSlice] at h)
theorem base_of {e : Expr} {f : Str} {env : Env} {wh : Sem Value} (h : noSup e = true) : attributeBase e f env wh = wh := by
  cases e with
  | Call g args kws p =>
    cases g with
    | Name x q =>
      cases args with
      | nil =>
        cases kws with
        | nil =>
          simp only [noSup, Bool.not_eq_true'] at h
          unfold attributeBase
          simp only [bne, h, Bool.not_false, Bool.true_or, if_true, bind_pure]
        | cons _ _ => rfl
      | cons _ _ => rfl
    | _ => rfl
  | _ => rfl
/-! #### what a check says about the form -/
theorem chk_form {M : Nm} (ex : Ex) (s : Sx) (e : Expr) (h : chkE M ex s e = true) : noStar e = true ∧ noSet e = true ∧ noSup e = true := by
  cases ex <;> (unfold chkE at h; split at h) <;> first
    | exact ⟨rfl, rfl, rfl⟩
    | (cases h; done)
    | (refine ⟨rfl, rfl, ?_⟩
       unfold noSup
       split
       · rename_i heq
         injection heq with h1 h2 h3 h4
         injection h1 with h5 h6
         rw [← h5]
         simp only [gloB, Bool.and_eq_true] at h
         exact h.1.1.2
       · rfl)
theorem chkW_set {M : Nm} (it : Iter) (s : Sx) (t e : Expr) (h : chkW M it s t e = true) : noSet e = true := by
  cases it <;> simp only [chkW] at h
  · exact (chk_form _ _ _ h).2.1
  all_goals
    split at h
    · rfl
    · cases h
theorem chkL_star {M : Nm} : ∀ (es : Exs) (s : Sx) (l : List Expr), chkL M es s l = true → l.all noStar = true
  | .nil, s, l, h => by
    simp only [chkL, List.isEmpty_iff] at h
    rw [h]; rfl
  | .cons e es, s, l, h => by
    simp only [chkL] at h
    split at h
    · simp only [Bool.and_eq_true] at h
      simp only [List.all_cons, Bool.and_eq_true]
      exact ⟨(chk_form _ _ _ h.1).1, chkL_star es s _ h.2⟩
    · cases h
end Ev
end
section
set_option maxRecDepth 100000
set_option maxHeartbeats 4000000
/-! Ev, part 9: the rules of expressions, one by one. -/
namespace Ev
open PySem PySem.Spec PyProof.Rows L2
theorem app_nil {α : Type} (l : List α) : l ++ [] = l := List.append_nil l
/-! #### lists picked -/
theorem RepL.pick {G : Pg} {m : List Addr} {H : Hp} {ds : List D} {vs : List V} (h : RepL G m H ds vs) : ∀ (pm : List Nat) {ws : List D}, pick ds pm = some ws → ∃ xs, pick vs pm = some xs ∧ RepL G m H ws xs
  | [], _, e => by cases e; exact ⟨[], rfl, RepL.nil⟩
  | i :: r, ws, e => by
    simp only [Ev.pick] at e
    split at e
    · rename_i d l e1 e2
      cases e
      obtain ⟨v, hv, rv⟩ := h.get e1
      obtain ⟨xs, hx, rx⟩ := h.pick r e2
      exact ⟨v :: xs, by simp only [Ev.pick, hv, hx], RepL.cons rv rx⟩
    · cases e
theorem vals_pick {vs : List V} {us : List Value} (h : Vals vs us) : ∀ (pm : List Nat) {xs : List V}, pick vs pm = some xs → ∃ zs, pick us pm = some zs ∧ Vals xs zs
  | [], _, e => by cases e; exact ⟨[], rfl, .nil⟩
  | i :: r, ws, e => by
    simp only [Ev.pick] at e
    split at e
    · rename_i d l e1 e2
      cases e
      obtain ⟨u, hu, ru⟩ := h.get e1
      obtain ⟨zs, hz, rz⟩ := vals_pick h r e2
      exact ⟨u :: zs, by simp only [Ev.pick, hu, hz], .cons ru rz⟩
    · cases e
/-! #### keywords -/
theorem kw_all : ∀ {qs : List Keyword} {env : Env} {pos : Pos}, kwAll qs = true → (backToKw pos (keywordEach qs env)).all (·.1.isSome) = true
  | [], _, _, _ => rfl
  | ⟨a, e, p⟩ :: qs, env, pos, h => by
    simp only [kwAll, List.all_cons, Bool.and_eq_true] at h
    have := kw_all (env := env) (pos := pos) (qs := qs) h.2
    show (a.isSome && (backToKw pos (keywordEach qs env)).all (·.1.isSome)) = true
    rw [this, h.1]; rfl
theorem kw_any {qs : List Keyword} {env : Env} {pos : Pos} : ∀ {l : List (Option Str × Sem Value)}, l.all (·.1.isSome) = true → l.any (·.1.isNone) = false
  | [], _ => rfl
  | a :: l, h => by
    simp only [List.all_cons, Bool.and_eq_true] at h
    simp only [List.any_cons, kw_any (qs := qs) (env := env) (pos := pos) h.2, Bool.or_false]
    obtain ⟨h1, _⟩ := h
    cases ha : a.1 with
    | none => rw [ha] at h1; cases h1
    | some _ => rfl
theorem kw_names : ∀ {qs : List Keyword} {env : Env} {pos : Pos}, kwAll qs = true → (backToKw pos (keywordEach qs env)).filterMap (·.1) = kwN qs
  | [], _, _, _ => rfl
  | ⟨a, e, p⟩ :: qs, env, pos, h => by
    simp only [kwAll, List.all_cons, Bool.and_eq_true] at h
    have ih := kw_names (env := env) (pos := pos) (qs := qs) h.2
    cases a with
    | none => exact absurd h.1 (by simp)
    | some x =>
      show x :: (backToKw pos (keywordEach qs env)).filterMap (·.1) = _
      rw [ih]; rfl
theorem kwN_length : ∀ (qs : List Keyword), (kwN qs).length = (kwE qs).length
  | [] => rfl
  | _ :: qs => congrArg Nat.succ (kwN_length qs)
section
variable {G : Pg} {n : Nat} {X : Cx} {s : Sx} {W : WX} {C : Cs}
/-- a global that is called, with values and keywords -/
theorem pe_anyc {x : Str} {u : Value} {l : List Expr} {qs : List Keyword} {p pos : Pos} {t tk : TA} {r : List V → List V → L2.St → Hp → VK → Prop} (hg : Gl X x) (hm : X.mg x = some u) (hk : PySem.W.keepIn X.K u = true) (hdb : (x == ("__debug__" : Str)) = false) (hst : l.all noStar = true) (hq : kwAll qs = true)
    (ha : PA X l t) (h0 : l = [] → ∀ σ H Q, t σ H Q → Q [] H) (hkw : PK X qs tk)
    (run : ∀ (pins : List (Addr × Obj)) (st : Shared) (σ : L2.St) (H : Hp) (vs zs : List V) (us ws : List Value) (Q : VK), L2.Inv X pins σ H st → Vals vs us → Vals zs ws → r vs zs σ H Q → wpAny (model X.prog X.w) X.A (call u us ((kwN qs).zip ws)) (EP X pins σ Q) X.xe st) :
    PE X (.Call (.Name x p) l qs pos) (fun σ H Q => t σ H fun vs H1 => tk σ H1 fun zs H2 => r vs zs σ H2 Q) := by
  refine ⟨fun pins st σ H Q I h => ?_⟩
  refine wpAny_Call_Name_kw (ld_glob I hg hm ?_ hdb)
  have hall := kw_all (env := X.env) (pos := pos) hq
  have hnm := kw_names (env := X.env) (pos := pos) hq
  cases l with
  | nil =>
    have h1 := h0 rfl σ H _ h
    refine PySem.W.callWith_KW0 (h₀ := X.base) I.ok.mod.kin hk hall ?_ (by rw [kw_any (qs := qs) (env := X.env) (pos := pos) hall]; rfl)
    refine thn (hkw.run pos pins st σ H _ I h1) fun ws s2 ⟨zs, H2, I2, rz, q2⟩ => ⟨I2.kIn, ?_⟩
    rw [hnm]
    exact run pins s2 σ H2 [] zs [] ws Q I2 .nil rz q2
  | cons e es =>
    have hs2 := hst
    simp only [List.all_cons, Bool.and_eq_true] at hs2
    refine PySem.W.callWith_KW (h₀ := X.base) I.ok.mod.kin hk hall (thn (ha.run pos pins st σ H _ I h) fun us s1 ⟨vs, H1, I1, rv, q1⟩ => ?_) (by rw [any_star hst, kw_any (qs := qs) (env := X.env) (pos := pos) hall]; rfl) (star_of hs2.1)
    refine thn (hkw.run pos pins s1 σ H1 _ I1 q1) fun ws s2 ⟨zs, H2, I2, rz, q2⟩ => ⟨I2.kIn, ?_⟩
    rw [hnm]
    exact run pins s2 σ H2 vs zs us ws Q I2 rv rz q2
theorem fin_sp {σ : L2.St} {m : List Addr} {H : Hp} {r : Rs D} {Q : VK} (h : Fin G W σ (Rep G) m H r fun _ _ _ H' v => Q v H') : Fin G (fun c d _ H => WE W σ c d H) [] (Rep G) m H r fun _ _ _ H' v => Q v H' := by
  cases r <;> exact h
theorem run_len {T : Tb} {f : Nat} {ds : List D} {S : Store} (h : run T n f ds S ≠ .bad) : ∃ F, T.fns[f]? = some F ∧ ds.length = F.np := by
  cases n with
  | zero => exact absurd (run_zero T f ds S) h
  | succ k =>
    rw [run_succ] at h
    unfold runB at h
    rw [csOf_T] at h
    split at h
    · rename_i F e
      split at h
      · rename_i hl
        exact ⟨F, e, hl⟩
      · exact absurd rfl h
    · exact absurd rfl h
/-- the parameters are as many as the table says -/
def NpOk (G : Pg) : Prop := ∀ f F, G.T.fns[f]? = some F → (G.ps f).length = F.np
theorem spF_of (np : NpOk G) {f : Nat} {σ : L2.St} {m : List Addr} {H : Hp} {S : Store} {ds : List D} {vs : List V} {Q : VK} (rs : RS G m H S) (r : RepL G m H ds vs) (h : Fin G W σ (Rep G) m H (run G.T n f ds S) fun _ _ _ H' v => Q v H') : spF G n f vs H Q (WE W σ) := by
  have hb : run G.T n f ds S ≠ .bad := fun e => by rw [e] at h; exact h.elim
  obtain ⟨F, e, hl⟩ := run_len hb
  exact ⟨by rw [np f F e, ← hl, r.length], m, S, ds, rs, r, fin_sp h⟩
theorem Ctx.pass (c : Ctx G n X s W) (σ : L2.St) : PassesAt (L2.CX G.P G.w) X σ (WE W σ) := by
  have := passAt (X := X) c.tk σ
  rw [c.prog, c.w] at this
  exact this
/-- a def is run -/
theorem run_ev (np : NpOk G) (c : Ctx G n X s W) {k f : Nat} {pins : List (Addr × Obj)} {σ : L2.St} {H : Hp} {st : Shared} {Q : VK} {us zs : List Value} {kw : List (Str × Value)} {vs : List V} {m : List Addr} {S : Store} {ds : List D} (hk : LvOk G k) (hr : Room k X.A) (hf : f < G.T.fns.length)
    (b : BindsTo st (G.fd f) ⟨us, kw⟩ ((G.ps f).zip zs)) (I : L2.Inv X pins σ H st) (rv : Vals vs zs) (rs : RS G m H S) (r : RepL G m H ds vs) (h : Fin G W σ (Rep G) m H (run G.T k f ds S) fun _ _ _ H' v => Q v H') :
    wpAny (model X.prog X.w) X.A (call (.ref (G.fa f)) us kw) (EP X pins σ Q) X.xe st := by
  have F := hk f hf
  rw [← c.prog, ← c.w, ← c.K, ← c.mg, ← c.base] at F
  have px := c.pass σ
  rw [← c.prog, ← c.w] at px
  refine wpAny_call (codeAny_mono (F.run X.A X.stack st H ⟨us, kw⟩ zs vs Q (WE W σ) hr I.env0 b rv (spF_of np rs r h)) fun q s' hq => ?_)
  cases q with
  | error e => exact px pins H st e s' I hq
  | ok fl =>
    cases fl with
    | ret u => exact I.after hq
    | next => exact False.elim hq
    | brk => exact False.elim hq
    | cont => exact False.elim hq
/-! #### the forms -/
variable {e x y z : Expr} {p pos : Pos} {a b : Ex}
theorem r_var (c : Ctx G n X s W) {i : Nat} {nm : Str} (h : seeB s i nm = true) : PE X (.Name nm p) (tE G W (evE C (.var i))) := by
  obtain ⟨h1, h2, h3, h4⟩ := c.see h
  refine pe_imp (pe_var h1 h2 h3 h4) fun σ H Q ⟨m, ρ, S, re, rs, q⟩ => ?_
  simp only [evE] at q
  split at q
  · rename_i d e
    obtain ⟨v, hv, r⟩ := re.at_ i d e
    exact ⟨v, hv, q.at_ok rs r⟩
  · exact q.elim
theorem r_const {v : V} {d : D} {ev : Fr → Store → Rs D} (h : PE X e (tC v)) (he : ∀ ρ S, ev ρ S = .ok d S) (r : ∀ m H, Rep G m H d v) : PE X e (tE G W ev) :=
  pe_imp h fun σ H Q ⟨m, ρ, S, re, rs, q⟩ => by
    rw [he] at q
    exact q.at_ok rs (r m H)
theorem r_glb (hd : Hd G) (c : Ctx G n X s W) (hT : C.T = G.T) {g : Nat} {nm : Str} (h : gloB s nm = true) (hn : G.M.glb[g]? = some nm) : PE X (.Name nm p) (tE G W (evE C (.glb g))) := by
  obtain ⟨h1, h2, h3, _⟩ := c.glo h
  obtain ⟨d, hdd, u, v, hm, r, rp⟩ := hd.glb g nm hn
  refine r_const (pe_glob h1 (by rw [c.mg]; exact hm) r h2) (fun ρ S => ?_) rp
  simp only [evE, hT, hdd, ofO]
theorem r_bin (c : Ctx G n X s W) {op : Op} {k : Bool} (ha : PE X x (tE G W (evE C a))) (hb : PE X y (tE G W (evE C b))) : PE X (.BinOp x op.of y pos) (tE G W (evE C (.bin op k a b))) := by
  refine pe_imp (pe_op (op_bin (G := G) c.K op k) ha hb) fun σ H Q ⟨m, ρ, S, re, rs, q⟩ => ?_
  simp only [evE] at q
  refine tX.go re rs q fun d S1 m1 H1 v1 x1 re1 rs1 r1 q1 => ?_
  refine tX.go re1 rs1 q1 fun d2 S2 m2 H2 v2 x2 re2 rs2 r2 q2 => ?_
  exact ⟨m2, S2, d, d2, rs2, Rep.mono x2 _ _ r1, r2, q2.toV (noEx_bin _ _ _ _ _)⟩
theorem r_neg (ha : PE X x (tE G W (evE C a))) : PE X (.UnaryOp .USub x pos) (tE G W (evE C (.neg a))) := by
  refine pe_imp (pe_un un_neg ha) fun σ H Q ⟨m, ρ, S, re, rs, q⟩ => ?_
  simp only [evE] at q
  refine tX.go re rs q fun d S1 m1 H1 v1 x1 re1 rs1 r1 q1 => ?_
  split at q1
  · exact ⟨_, r1.int_inv, q1.at_ok rs1 rep_int⟩
  · exact q1.elim
theorem noSet_of {M : Nm} {b : Ex} {y : Expr} (h : chkE M b s y = true) : noSet y = true := (chk_form _ _ _ h).2.1
theorem t_cmp (op : Cp) {K : Bool → Store → Rs D} {t : Tag K} {σ : L2.St} {H : Hp} {Q : VK} (hK : ∀ k S, K k S = .ok (.bl k) S)
    (h : tE G W (fun ρ S => (evE C a ρ S).th fun d S1 => (evE C b ρ S1).th fun e S2 => (ofO (cmpD op d e S2) S2).th K t) σ H Q) : tOp (rCmp G op) (tE G W (evE C a)) (tE G W (evE C b)) σ H Q := by
  obtain ⟨m, ρ, S, re, rs, q⟩ := h
  refine tX.go re rs q fun d S1 m1 H1 v1 x1 re1 rs1 r1 q1 => ?_
  refine tX.go re1 rs1 q1 fun d2 S2 m2 H2 v2 x2 re2 rs2 r2 q2 => ?_
  obtain ⟨k, ek, q3⟩ := q2.at_o
  rw [hK] at q3
  exact ⟨m2, S2, d, d2, k, rs2, Rep.mono x2 _ _ r1, r2, ek, q3.at_ok rs2 rep_bl⟩
theorem r_cmp (c : Ctx G n X s W) (op : Cp) (ha : PE X x (tE G W (evE C a))) (hb : PE X y (tE G W (evE C b))) (hy : noSet y = true) : PE X (.Compare x [op.of] [y] pos) (tE G W (evE C (.cmp op a b))) := by
  refine pe_imp (pe_cmpR (op_cmp (G := G) c.K c.units op) ha hb (marks_of hy)) fun σ H Q ⟨m, ρ, S, re, rs, q⟩ => ?_
  simp only [evE] at q
  exact t_cmp op (fun _ _ => rfl) ⟨m, ρ, S, re, rs, q⟩
theorem r_cmpT (c : Ctx G n X s W) (op : Cp) (ha : PE X x (tE G W (evE C a))) (hb : PE X y (tE G W (evE C b))) (hy : noSet y = true) : PT X (.Compare x [op.of] [y] pos) (tT G W (evT C (.cmp op a b))) := by
  refine pt_imp (pt_cmpR (op_cmp (G := G) c.K c.units op) ha hb (marks_of hy)) fun σ H Q ⟨m, ρ, S, re, rs, q⟩ => ?_
  simp only [evT] at q
  refine tX.go re rs q fun d S1 m1 H1 v1 x1 re1 rs1 r1 q1 => ?_
  refine tX.go re1 rs1 q1 fun d2 S2 m2 H2 v2 x2 re2 rs2 r2 q2 => ?_
  obtain ⟨k, ek, q3⟩ := q2.at_oe
  exact ⟨m2, S2, d, d2, k, rs2, Rep.mono x2 _ _ r1, r2, ek, k, rfl, q3.at_ok rs2 rfl⟩
theorem r_chn (c : Ctx G n X s W) (o1 o2 : Cp) {b' : Ex} (ha : PE X x (tE G W (evE C a))) (hb : PE X y (tE G W (evE C b))) (hc : PE X z (tE G W (evE C b'))) (hy : noSet z = true) : PE X (.Compare x [o1.of, o2.of] [y, z] pos) (tE G W (evE C (.chn o1 o2 a b b'))) := by
  refine pe_imp (pe_chain (op_cmp (G := G) c.K c.units o1) (op_cmp (G := G) c.K c.units o2) ha hb hc (marks_of hy)) fun σ H Q ⟨m, ρ, S, re, rs, q⟩ => ?_
  simp only [evE] at q
  refine tX.go re rs q fun d S1 m1 H1 v1 x1 re1 rs1 r1 q1 => ?_
  refine tX.go re1 rs1 q1 fun d2 S2 m2 H2 v2 x2 re2 rs2 r2 q2 => ?_
  obtain ⟨k, ek, q3⟩ := q2.at_o
  refine ⟨m2, S2, d, d2, k, rs2, Rep.mono x2 _ _ r1, r2, ek, k, rfl, ?_⟩
  cases k with
  | false => exact q3.at_ok rs2 rep_bl
  | true =>
    rw [if_pos rfl] at q3
    refine tX.go re2 rs2 q3 fun d3 S3 m3 H3 v3 x3 re3 rs3 r3 q4 => ?_
    obtain ⟨k2, ek2, q5⟩ := q4.at_o
    exact ⟨m3, S3, d2, d3, k2, rs3, Rep.mono x3 _ _ r2, r3, ek2, q5.at_ok rs3 rep_bl⟩
theorem r_chnT (c : Ctx G n X s W) (o1 o2 : Cp) {b' : Ex} (ha : PE X x (tE G W (evE C a))) (hb : PE X y (tE G W (evE C b))) (hc : PE X z (tE G W (evE C b'))) (hy : noSet z = true) : PT X (.Compare x [o1.of, o2.of] [y, z] pos) (tT G W (evT C (.chn o1 o2 a b b'))) := by
  refine pt_imp (pt_chain (op_cmp (G := G) c.K c.units o1) (op_cmp (G := G) c.K c.units o2) ha hb hc (marks_of hy)) fun σ H Q ⟨m, ρ, S, re, rs, q⟩ => ?_
  simp only [evT] at q
  refine tX.go re rs q fun d S1 m1 H1 v1 x1 re1 rs1 r1 q1 => ?_
  refine tX.go re1 rs1 q1 fun d2 S2 m2 H2 v2 x2 re2 rs2 r2 q2 => ?_
  obtain ⟨k, ek, q3⟩ := q2.at_o
  refine ⟨m2, S2, d, d2, k, rs2, Rep.mono x2 _ _ r1, r2, ek, k, rfl, ?_⟩
  cases k with
  | false => exact ⟨false, rfl, q3.at_ok rs2 rfl⟩
  | true =>
    rw [if_pos rfl] at q3
    refine tX.go re2 rs2 q3 fun d3 S3 m3 H3 v3 x3 re3 rs3 r3 q4 => ?_
    obtain ⟨k2, ek2, q5⟩ := q4.at_oe
    exact ⟨m3, S3, d2, d3, k2, rs3, Rep.mono x3 _ _ r2, r3, ek2, k2, rfl, q5.at_ok rs3 rfl⟩
theorem non_is {m : List Addr} {H : Hp} {d : D} {v : V} (r : Rep G m H d v) (k : Bool) : isNo k d = (if k then !decide (v = .non) else decide (v = .non)) := by
  cases d with
  | non => have e := r.non_inv; subst e; cases k <;> rfl
  | bl b => have e := r.bl_inv; subst e; cases k <;> rfl
  | int b => have e := r.int_inv; subst e; cases k <;> rfl
  | str b => have e := r.str_inv; subst e; cases k <;> rfl
  | tup l => obtain ⟨p, vs, e, _⟩ := r.tup_inv; subst e; cases k <;> rfl
  | lst l => obtain ⟨p, vs, e, _⟩ := r.lst_inv; subst e; cases k <;> rfl
  | ref i => obtain ⟨p, e, _⟩ := r.ref_inv; subst e; cases k <;> rfl
  | obj i l => obtain ⟨p, vs, e, _⟩ := r.obj_inv; subst e; cases k <;> rfl
theorem r_isN (k : Bool) {j : Nat} {p2 : Pos} {kd : Option Str} (ha : PE X x (tE G W (evE C a))) {op : CmpOp} (ho : op = if k then .IsNot else .Is) {e2 : Expr} (he2 : PE X e2 (tC .non)) (hy : noSet e2 = true) : PE X (.Compare x [op] [e2] pos) (tE G W (evE C (.isN k a))) := by
  subst ho
  cases k with
  | false =>
    refine pe_imp (pe_cmpR op_isN1 ha he2 (marks_of hy)) fun σ H Q ⟨m, ρ, S, re, rs, q⟩ => ?_
    simp only [evE] at q
    refine tX.go re rs q fun d S1 m1 H1 v1 x1 re1 rs1 r1 q1 => ?_
    rw [non_is r1] at q1
    exact ⟨rfl, q1.at_ok rs1 rep_bl⟩
  | true =>
    refine pe_imp (pe_cmpR op_notN1 ha he2 (marks_of hy)) fun σ H Q ⟨m, ρ, S, re, rs, q⟩ => ?_
    simp only [evE] at q
    refine tX.go re rs q fun d S1 m1 H1 v1 x1 re1 rs1 r1 q1 => ?_
    rw [non_is r1] at q1
    exact ⟨rfl, q1.at_ok rs1 rep_bl⟩
theorem r_isNT (k : Bool) (ha : PE X x (tE G W (evE C a))) {op : CmpOp} (ho : op = if k then .IsNot else .Is) {e2 : Expr} (he2 : PE X e2 (tC .non)) (hy : noSet e2 = true) : PT X (.Compare x [op] [e2] pos) (tT G W (evT C (.isN k a))) := by
  subst ho
  cases k with
  | false =>
    refine pt_imp (pt_cmpR op_isN1 ha he2 (marks_of hy)) fun σ H Q ⟨m, ρ, S, re, rs, q⟩ => ?_
    simp only [evT] at q
    refine tX.go re rs q fun d S1 m1 H1 v1 x1 re1 rs1 r1 q1 => ?_
    rw [non_is r1] at q1
    exact ⟨rfl, _, rfl, q1.at_ok rs1 rfl⟩
  | true =>
    refine pt_imp (pt_cmpR op_notN1 ha he2 (marks_of hy)) fun σ H Q ⟨m, ρ, S, re, rs, q⟩ => ?_
    simp only [evT] at q
    refine tX.go re rs q fun d S1 m1 H1 v1 x1 re1 rs1 r1 q1 => ?_
    rw [non_is r1] at q1
    exact ⟨rfl, _, rfl, q1.at_ok rs1 rfl⟩
end
end Ev
end
section
set_option maxRecDepth 100000
set_option maxHeartbeats 4000000
/-! Ev, part 10: more rules of expressions. -/
namespace Ev
open PySem PySem.Spec PyProof.Rows L2
/-! #### cells that nobody sees are forgotten -/
section
variable {G : Pg} {m m1 m3 : List Addr} {H H1 H3 : Hp} {S S' : Store}
mutual
theorem below_of : ∀ (d : D) (v : V), Rep G m H d v → below m.length d = true
  | .non, _, _ => rfl
  | .bl _, _, _ => rfl
  | .int _, _, _ => rfl
  | .str _, _, _ => rfl
  | .tup l, _, h => by
    obtain ⟨p, vs, _, _, r⟩ := h.tup_inv
    simp only [below]
    exact belowL_of l vs r
  | .lst l, _, h => by
    obtain ⟨p, vs, _, _, r⟩ := h.lst_inv
    simp only [below]
    exact belowL_of l vs r
  | .ref n, _, h => by
    obtain ⟨p, _, e⟩ := h.ref_inv
    simp only [below, decide_eq_true_eq]
    exact (List.getElem?_eq_some_iff.mp e).1
  | .obj c l, _, h => by
    obtain ⟨p, vs, _, _, r⟩ := h.obj_inv
    simp only [below]
    exact belowL_of l vs r
theorem belowL_of : ∀ (l : List D) (vs : List V), RepL G m H l vs → belowL m.length l = true
  | [], _, _ => rfl
  | d :: l, _, h => by
    simp only [RepL] at h
    obtain ⟨v, r, _, h1, h2⟩ := h
    simp only [belowL, Bool.and_eq_true]
    exact ⟨below_of d v h1, belowL_of l r h2⟩
end
theorem get_pre {n : Nat} {p : Addr} (a : m1 <+: m3) (hn : n < m1.length) (h : m3[n]? = some p) : m1[n]? = some p := by
  obtain ⟨r, rfl⟩ := a
  rw [List.getElem?_append_left hn] at h
  exact h
theorem not_pre {p : Addr} (a : m1 <+: m3) (h : p ∉ m3) : p ∉ m1 := fun q => h (a.subset q)
mutual
theorem Rep.less (a : m1 <+: m3) : ∀ (d : D) (v : V), below m1.length d = true → Rep G m3 H d v → Rep G m1 H d v
  | .non, _, _, h => by rw [h.non_inv]; exact rep_non
  | .bl _, _, _, h => by rw [h.bl_inv]; exact rep_bl
  | .int _, _, _, h => by rw [h.int_inv]; exact rep_int
  | .str _, _, _, h => by rw [h.str_inv]; exact rep_str
  | .tup l, _, b, h => by
    simp only [below] at b
    obtain ⟨p, vs, rfl, f, r⟩ := h.tup_inv
    exact rep_tup (f.imp (fun q => ⟨not_pre a q.1, q.2⟩) id) (RepL.less a l vs b r)
  | .lst l, _, b, h => by
    simp only [below] at b
    obtain ⟨p, vs, rfl, f, r⟩ := h.lst_inv
    exact rep_lst ⟨not_pre a f.1, f.2⟩ (RepL.less a l vs b r)
  | .ref n, _, b, h => by
    simp only [below, decide_eq_true_eq] at b
    obtain ⟨p, rfl, e⟩ := h.ref_inv
    exact rep_ref (get_pre a b e)
  | .obj c l, _, b, h => by
    simp only [below] at b
    obtain ⟨p, vs, rfl, f, r⟩ := h.obj_inv
    exact rep_obj ⟨not_pre a f.1, f.2⟩ (RepL.less a l vs b r)
theorem RepL.less (a : m1 <+: m3) : ∀ (l : List D) (vs : List V), belowL m1.length l = true → RepL G m3 H l vs → RepL G m1 H l vs
  | [], _, _, h => by simp only [RepL] at h; subst h; exact RepL.nil
  | d :: l, _, b, h => by
    simp only [belowL, Bool.and_eq_true] at b
    simp only [RepL] at h
    obtain ⟨v, r, rfl, h1, h2⟩ := h
    exact RepL.cons (Rep.less a d v b.1 h1) (RepL.less a l r b.2 h2)
end
theorem RepC.less {c : Cell} {p : Addr} (a : m1 <+: m3) (b : belowC m1.length c = true) (h : RepC G m3 H c p) : RepC G m1 H c p := by
  cases c with
  | lst l =>
    obtain ⟨vs, h1, r⟩ := h
    exact ⟨vs, h1, RepL.less a _ _ b r⟩
  | ins c fs =>
    obtain ⟨dx, vs, h1, r⟩ := h
    exact ⟨dx, vs, h1, RepL.less a _ _ b r⟩
  | dct lk kvs =>
    obtain ⟨vs, h1, r⟩ := h
    exact ⟨vs, h1, RepL.less a _ _ b r⟩
theorem belowC_of {c : Cell} {p : Addr} (h : RepC G m H c p) : belowC m.length c = true := by
  cases c with
  | lst l =>
    obtain ⟨vs, _, r⟩ := h
    exact belowL_of _ _ r
  | ins c fs =>
    obtain ⟨dx, vs, _, r⟩ := h
    exact belowL_of _ _ r
  | dct lk kvs =>
    obtain ⟨vs, _, r⟩ := h
    exact belowL_of _ _ r
theorem RS.drop (rs : RS G m3 H3 S') (x : Ext m1 H1 m3 H3) (rs1 : RS G m1 H1 S) (e : cutOk S S' = true) : RS G m1 H3 (S'.take S.length) ∧ Ext m1 H1 m1 H3 := by
  have hle : S.length ≤ S'.length := by rw [← rs.len, ← rs1.len]; exact x.pre.length_le
  refine ⟨⟨by rw [List.length_take, Nat.min_eq_left hle]; exact rs1.len, rs1.nd, fun n c en => ?_⟩, ⟨List.prefix_refl _, fun a o ha na => ⟨(x.keep a o ha na).1, na⟩, x.frz⟩⟩
  rw [List.getElem?_take] at en
  split at en
  · rename_i hn
    have hn1 : n < m1.length := by rw [rs1.len]; exact hn
    obtain ⟨p, hp, q⟩ := rs.cel n c en
    refine ⟨p, get_pre x.pre hn1 hp, RepC.less x.pre ?_ q⟩
    unfold cutOk at e
    rw [Bool.or_eq_true] at e
    have en2 : (S'.take S.length)[n]? = some c := by rw [List.getElem?_take, if_pos hn]; exact en
    rcases e with e | e
    · simp only [decide_eq_true_eq] at e
      rw [e] at en2
      obtain ⟨p1, hp1, q1⟩ := rs1.cel n c en2
      exact belowC_of q1
    · rw [rs1.len]
      exact List.all_eq_true.mp e c (List.mem_of_getElem? en2)
  · cases en
end
section
variable {G : Pg} {n : Nat} {X : Cx} {s : Sx} {W : WX} {C : Cs} {e x y z : Expr} {p pos : Pos} {a b : Ex} {es : List Expr} {l : Exs}
/-! #### lists of expressions -/
theorem r_nil : PA X [] (tL G W (evL C .nil)) := pa_imp pa_nil fun σ H Q ⟨m, ρ, S, re, rs, q⟩ => by
  simp only [evL] at q
  exact q.at_ok rs RepL.nil
theorem r_cons (ha : PE X x (tE G W (evE C a))) (hs : noStar x = true) (hl : PA X es (tL G W (evL C l))) : PA X (x :: es) (tL G W (evL C (.cons a l))) :=
  pa_imp (pa_cons ha hl (star_of hs)) fun σ H Q ⟨m, ρ, S, re, rs, q⟩ => by
    simp only [evL] at q
    refine tX.go re rs q fun d S1 m1 H1 v1 x1 re1 rs1 r1 q1 => ?_
    refine tX.go re1 rs1 q1 fun d2 S2 m2 H2 v2 x2 re2 rs2 r2 q2 => ?_
    exact q2.at_ok rs2 (RepL.cons (Rep.mono x2 _ _ r1) r2)
theorem r_knil : PK X [] (tL G W (evL C .nil)) := pk_imp pk_nil fun σ H Q ⟨m, ρ, S, re, rs, q⟩ => by
  simp only [evL] at q
  exact q.at_ok rs RepL.nil
theorem r_kcons {nm : Option Str} {kp : Pos} {ks : List Keyword} (ha : PE X x (tE G W (evE C a))) (hl : PK X ks (tL G W (evL C l))) : PK X (⟨nm, x, kp⟩ :: ks) (tL G W (evL C (.cons a l))) :=
  pk_imp (pk_cons ha hl) fun σ H Q ⟨m, ρ, S, re, rs, q⟩ => by
    simp only [evL] at q
    refine tX.go re rs q fun d S1 m1 H1 v1 x1 re1 rs1 r1 q1 => ?_
    refine tX.go re1 rs1 q1 fun d2 S2 m2 H2 v2 x2 re2 rs2 r2 q2 => ?_
    exact q2.at_ok rs2 (RepL.cons (Rep.mono x2 _ _ r1) r2)
theorem nil_of {M : Nm} {σ : L2.St} {H : Hp} {Q : List V → Hp → Prop} (hl : chkL M l s es = true) (e : es = []) (h : tL G W (evL C l) σ H Q) : Q [] H := by
  subst e
  cases l with
  | nil =>
    obtain ⟨m, ρ, S, re, rs, q⟩ := h
    simp only [evL] at q
    exact q.at_ok rs RepL.nil
  | cons _ _ => simp [chkL] at hl
/-! #### and, or, not, if -/
theorem r_and {rest : List Expr} (c : Ctx G n X s W) (ha : PE X x (tE G W (evE C a))) (hb : PE X (.BoolOp .And (y :: rest) pos) (tE G W (evE C b))) : PE X (.BoolOp .And (x :: y :: rest) pos) (tE G W (evE C (.and a b))) :=
  pe_imp (pe_andT ha hb) fun σ H Q ⟨m, ρ, S, re, rs, q⟩ => by
    simp only [evE] at q
    refine tX.go re rs q fun d S1 m1 H1 v1 x1 re1 rs1 r1 q1 => ?_
    obtain ⟨k, ek, q2⟩ := q1.at_o
    refine ⟨k, by rw [c.K]; exact tru_of rs1 r1 ek, ?_⟩
    cases k with
    | true => exact ⟨m1, ρ, S1, re1, rs1, q2⟩
    | false => exact q2.at_ok rs1 r1
theorem r_or {rest : List Expr} (c : Ctx G n X s W) (ha : PE X x (tE G W (evE C a))) (hb : PE X (.BoolOp .Or (y :: rest) pos) (tE G W (evE C b))) : PE X (.BoolOp .Or (x :: y :: rest) pos) (tE G W (evE C (.or a b))) :=
  pe_imp (pe_orT ha hb) fun σ H Q ⟨m, ρ, S, re, rs, q⟩ => by
    simp only [evE] at q
    refine tX.go re rs q fun d S1 m1 H1 v1 x1 re1 rs1 r1 q1 => ?_
    obtain ⟨k, ek, q2⟩ := q1.at_o
    refine ⟨k, by rw [c.K]; exact tru_of rs1 r1 ek, ?_⟩
    cases k with
    | false => exact ⟨m1, ρ, S1, re1, rs1, q2⟩
    | true => exact q2.at_ok rs1 r1
theorem r_not (c : Ctx G n X s W) (ha : PE X x (tE G W (evE C a))) : PE X (.UnaryOp .Not x pos) (tE G W (evE C (.not a))) :=
  pe_imp (pe_notT ha) fun σ H Q ⟨m, ρ, S, re, rs, q⟩ => by
    simp only [evE] at q
    refine tX.go re rs q fun d S1 m1 H1 v1 x1 re1 rs1 r1 q1 => ?_
    obtain ⟨k, ek, q2⟩ := q1.at_o
    exact ⟨k, by rw [c.K]; exact tru_of rs1 r1 ek, q2.at_ok rs1 rep_bl⟩
theorem r_ife {cd : Ex} (hc : PT X z (tT G W (evT C cd))) (ha : PE X x (tE G W (evE C a))) (hb : PE X y (tE G W (evE C b))) : PE X (.IfExp z x y pos) (tE G W (evE C (.ife cd a b))) :=
  pe_imp (pe_ifExp hc ha hb) fun σ H Q ⟨m, ρ, S, re, rs, q⟩ => by
    simp only [evE] at q
    refine tX.go re rs q fun k S1 m1 H1 k1 x1 re1 rs1 r1 q1 => ?_
    have e : k = k1 := r1
    subst e
    cases k with
    | true => exact ⟨m1, ρ, S1, re1, rs1, q1⟩
    | false => exact ⟨m1, ρ, S1, re1, rs1, q1⟩
theorem t_and {tb : TT} (ht : ∀ σ H Q, tT G W (evT C b) σ H Q → tb σ H Q) : ∀ σ H Q, tT G W (evT C (.and a b)) σ H Q → tAnd (tT G W (evT C a)) tb σ H Q := fun σ H Q ⟨m, ρ, S, re, rs, q⟩ => by
  simp only [evT] at q
  refine tX.go re rs q fun k S1 m1 H1 k1 x1 re1 rs1 r1 q1 => ?_
  have e : k = k1 := r1
  subst e
  cases k with
  | true => exact ht _ _ _ ⟨m1, ρ, S1, re1, rs1, q1⟩
  | false => exact q1.at_ok rs1 rfl
theorem t_or {tb : TT} (ht : ∀ σ H Q, tT G W (evT C b) σ H Q → tb σ H Q) : ∀ σ H Q, tT G W (evT C (.or a b)) σ H Q → tOr (tT G W (evT C a)) tb σ H Q := fun σ H Q ⟨m, ρ, S, re, rs, q⟩ => by
  simp only [evT] at q
  refine tX.go re rs q fun k S1 m1 H1 k1 x1 re1 rs1 r1 q1 => ?_
  have e : k = k1 := r1
  subst e
  cases k with
  | false => exact ht _ _ _ ⟨m1, ρ, S1, re1, rs1, q1⟩
  | true => exact q1.at_ok rs1 rfl
theorem r_notT (ha : PT X x (tT G W (evT C a))) : PT X (.UnaryOp .Not x pos) (tT G W (evT C (.not a))) :=
  pt_imp (pt_not ha) fun σ H Q ⟨m, ρ, S, re, rs, q⟩ => by
    simp only [evT] at q
    refine tX.go re rs q fun k S1 m1 H1 k1 x1 re1 rs1 r1 q1 => ?_
    have e : k = k1 := r1
    subst e
    exact q1.at_ok rs1 rfl
/-- an expression as a test: its value's truth -/
theorem r_truth (c : Ctx G n X s W) {ev : Fr → Store → Rs D} {evt : Fr → Store → Rs Bool} (ha : PE X x (tE G W ev)) (he : ∀ ρ S, evt ρ S = (ev ρ S).th fun d S1 => ofO (truD d S1) S1)
    (hw : ∀ whole : Sem Value, isTrue x X.env whole = (do let v ← whole; standAt x.pos; holding [v] (truthy v))) : PT X x (tT G W evt) :=
  pt_imp (pt_truth ha hw) fun σ H Q ⟨m, ρ, S, re, rs, q⟩ => by
    rw [he] at q
    refine tX.go re rs q fun d S1 m1 H1 v1 x1 re1 rs1 r1 q1 => ?_
    obtain ⟨k, ek, q2⟩ := q1.at_oe
    exact ⟨k, by rw [c.K]; exact tru_of rs1 r1 ek, q2.at_ok rs1 rfl⟩
/-! #### displays, places, slices, fields -/
theorem fin_len {σ : L2.St} {m : List Addr} {H : Hp} {S : Store} {d : D} {l : List D} {Q : VK} {I : Prop} (h : I) : I := h
theorem r_tup {k : Nat} (hl : PA X es (tL G W (evL C l))) (hz : es.length ≤ sizeLine) (hn : ∀ {σ H Q}, tL G W (evL C l) σ H Q → tL G W (evL C l) σ H fun xs H' => xs.length = es.length ∧ Q xs H') : PE X (.Tuple es k pos) (tE G W (evE C (.tup l))) :=
  pe_imp (pe_tup (pa_imp hl fun σ H Q q => q)) fun σ H Q ⟨m, ρ, S, re, rs, q⟩ => by
    simp only [evE] at q
    have q0 : tL G W (evL C l) σ H fun xs H1 => ∀ p, H1 p = none → Q (.ref p) (upd H1 p (.tup xs)) := tX.go re rs q fun ds S1 m1 H1 vs x1 re1 rs1 r1 q1 => fun p hp => fin_tup rs1 r1 hp (q1.toV (by intro _ _ _ h; cases h))
    obtain ⟨m, ρ, S, re, rs, q1⟩ := hn q0
    exact ⟨m, ρ, S, re, rs, q1.imp fun _ _ _ _ v _ _ _ w => ⟨by rw [w.1]; exact hz, w.2⟩⟩
theorem r_lst {k : Bool} (hl : PA X es (tL G W (evL C l))) (hz : es.length ≤ sizeLine) (hn : ∀ {σ H Q}, tL G W (evL C l) σ H Q → tL G W (evL C l) σ H fun xs H' => xs.length = es.length ∧ Q xs H') : PE X (.List es pos) (tE G W (evE C (.lst k l))) :=
  pe_imp (pe_lst (pa_imp hl fun σ H Q q => q)) fun σ H Q ⟨m, ρ, S, re, rs, q⟩ => by
    simp only [evE] at q
    have q0 : tL G W (evL C l) σ H fun xs H1 => ∀ p, H1 p = none → Q (.ref p) (upd H1 p (.lst xs)) := tX.go re rs q fun ds S1 m1 H1 vs x1 re1 rs1 r1 q1 => fun p hp => fin_mk rs1 r1 hp (q1.toV (noEx_mkL _ _ _))
    obtain ⟨m, ρ, S, re, rs, q1⟩ := hn q0
    exact ⟨m, ρ, S, re, rs, q1.imp fun _ _ _ _ v _ _ _ w => ⟨by rw [w.1]; exact hz, w.2⟩⟩
/-- as many values as expressions -/
def lenX : Exs → Nat
  | .nil => 0
  | .cons _ l => lenX l + 1
theorem evL_len : ∀ (l : Exs) {ρ : Fr} {S S' : Store} {ds : List D}, evL C l ρ S = .ok ds S' → ds.length = lenX l
  | .nil, ρ, S, S', ds, h => by
    simp only [evL] at h
    cases h; rfl
  | .cons e l, ρ, S, S', ds, h => by
    simp only [evL] at h
    cases h1 : evE C e ρ S with
    | ok d S1 =>
      rw [h1, th_ok] at h
      cases h2 : evL C l ρ S1 with
      | ok ds2 S2 =>
        rw [h2, th_ok] at h
        cases h
        simp only [List.length_cons, evL_len l h2, lenX]
      | ex _ _ _ => rw [h2] at h; cases h
      | bad => rw [h2] at h; cases h
    | ex _ _ _ => rw [h1] at h; cases h
    | bad => rw [h1] at h; cases h
theorem chkL_len {M : Nm} : ∀ (l : Exs) (es : List Expr), chkL M l s es = true → lenX l = es.length
  | .nil, es, h => by
    simp only [chkL, List.isEmpty_iff] at h
    rw [h]; rfl
  | .cons e l, es, h => by
    simp only [chkL] at h
    split at h
    · simp only [Bool.and_eq_true] at h
      simp only [lenX, List.length_cons, chkL_len l _ h.2]
    · cases h
theorem len_of {M : Nm} (h : chkL M l s es = true) {σ : L2.St} {H : Hp} {Q : List V → Hp → Prop} : tL G W (evL C l) σ H Q → tL G W (evL C l) σ H fun xs H' => xs.length = es.length ∧ Q xs H' := fun ⟨m, ρ, S, re, rs, q⟩ => by
  refine ⟨m, ρ, S, re, rs, ?_⟩
  cases e : evL C l ρ S with
  | ok ds S' =>
    rw [e] at q
    intro m' H' vs x rs' r
    exact ⟨by rw [← r.length, evL_len l e, chkL_len l es h], q m' H' vs x rs' r⟩
  | ex _ _ _ => rw [e] at q; exact q
  | bad => rw [e] at q; exact q
theorem r_idx (c : Ctx G n X s W) (ha : PE X x (tE G W (evE C a))) (hb : PE X y (tE G W (evE C b))) (hy : notSlice y = true) : PE X (.Subscript x y pos) (tE G W (evE C (.idx a b))) :=
  pe_imp (pe_ix (op_idx (G := G) c.K) ha hb (ix_of hy)) fun σ H Q ⟨m, ρ, S, re, rs, q⟩ => by
    simp only [evE] at q
    refine tX.go re rs q fun d S1 m1 H1 v1 x1 re1 rs1 r1 q1 => ?_
    refine tX.go re1 rs1 q1 fun d2 S2 m2 H2 v2 x2 re2 rs2 r2 q2 => ?_
    exact ⟨m2, S2, d, d2, rs2, Rep.mono x2 _ _ r1, r2, q2.toV (noEx_ofO _ _)⟩
theorem r_no : PO X none (tI G W (evI C .no)) := po_imp po_none fun σ H Q ⟨m, ρ, S, re, rs, q⟩ => by
  simp only [evI] at q
  exact q.at_ok rs rfl
theorem r_yes (ha : PE X x (tE G W (evE C a))) : PO X (some x) (tI G W (evI C (.yes a))) := po_imp (po_some ha) fun σ H Q ⟨m, ρ, S, re, rs, q⟩ => by
  simp only [evI] at q
  refine tX.go re rs q fun d S1 m1 H1 v1 x1 re1 rs1 r1 q1 => ?_
  split at q1
  · exact ⟨_, r1.int_inv, q1.at_ok rs1 rfl⟩
  · exact q1.elim
theorem r_slc (c : Ctx G n X s W) {k : Bool} {lo hi : Exo} {ol oh : Option Expr} {p2 : Pos} (ha : PE X x (tE G W (evE C a))) (hl : PO X ol (tI G W (evI C lo))) (hh : PO X oh (tI G W (evI C hi))) : PE X (.Subscript x (.Slice ol oh none p2) pos) (tE G W (evE C (.slc k a lo hi))) :=
  pe_imp (pe_slice (op_slc (G := G) c.K k) ha hl hh) fun σ H Q ⟨m, ρ, S, re, rs, q⟩ => by
    simp only [evE] at q
    refine tX.go re rs q fun d S1 m1 H1 v1 x1 re1 rs1 r1 q1 => ?_
    refine tX.go re1 rs1 q1 fun o2 S2 m2 H2 v2 x2 re2 rs2 r2 q2 => ?_
    refine tX.go re2 rs2 q2 fun o3 S3 m3 H3 v3 x3 re3 rs3 r3 q3 => ?_
    have e2 : o2 = v2 := r2
    have e3 : o3 = v3 := r3
    subst e2 e3
    refine ⟨m3, S3, d, rs3, Rep.mono (x2.trans x3) _ _ r1, fun t et => ?_, q3.toV (noEx_slc _ _ _ _ _)⟩
    subst et
    simp only [slcD] at q3
    split at q3
    · assumption
    · exact q3.elim
end
end Ev
end
section
set_option maxRecDepth 100000
set_option maxHeartbeats 4000000
/-! Ev, part 11: fields, calls, new instances. -/
namespace Ev
open PySem PySem.Spec PyProof.Rows L2
section
variable {G : Pg}
theorem att_inj (hd : Hd G) {f g : Nat} (h : G.att f = G.att g) : f = g := by
  have out : ∀ (k : Nat) (x : Str), G.M.atts[k]? = some x → x.length < 1000 := fun k x e => hd.atl x (List.mem_of_getElem? e)
  have big : ∀ k : Nat, (⟨Array.replicate (1000 + k) 0⟩ : Str).length = 1000 + k := fun k => by
    show (Array.replicate (1000 + k) 0).size = _
    simp
  unfold Pg.att at h
  cases e1 : G.M.atts[f]? with
  | none =>
    rw [e1] at h
    cases e2 : G.M.atts[g]? with
    | none =>
      rw [e2] at h
      have := congrArg Str.length h
      simp only [big] at this
      omega
    | some y =>
      rw [e2] at h
      have h1 := out _ _ e2
      have h : (⟨Array.replicate (1000 + f) 0⟩ : Str) = y := h
      rw [← h, big] at h1
      omega
  | some x =>
    rw [e1] at h
    cases e2 : G.M.atts[g]? with
    | none =>
      rw [e2] at h
      have h1 := out _ _ e1
      have h : x = (⟨Array.replicate (1000 + g) 0⟩ : Str) := h
      rw [h, big] at h1
      omega
    | some y =>
      rw [e2] at h
      have h : x = y := h
      subst h
      obtain ⟨l1, q1⟩ := List.getElem?_eq_some_iff.mp e1
      obtain ⟨l2, q2⟩ := List.getElem?_eq_some_iff.mp e2
      exact (List.getElem_inj hd.atn).mp (q1.trans q2.symm)
theorem att_of {f : Nat} {x : Str} (h : G.M.atts[f]? = some x) : G.att f = x := by
  unfold Pg.att
  rw [h]
theorem look_zip (hd : Hd G) {f : Nat} {m : List Addr} {H : Hp} : ∀ {ks : List Nat} {ds : List D} {vs : List V} {d : D}, RepL G m H ds vs → lookN f (ks.zip ds) = some d → ∃ v, ((ks.map G.att).zip vs).lookup (G.att f) = some v ∧ Rep G m H d v
  | [], _, _, _, _, h => by simp [lookN] at h
  | k :: ks, [], _, _, _, h => by simp [lookN] at h
  | k :: ks, d :: ds, _, e, r, h => by
    simp only [RepL] at r
    obtain ⟨v, vs, rfl, r1, r2⟩ := r
    simp only [List.zip_cons_cons, lookN] at h
    simp only [List.map_cons, List.zip_cons_cons, List.lookup_cons]
    by_cases hk : k = f
    · subst hk
      rw [if_pos rfl] at h
      cases h
      exact ⟨v, by simp, r1⟩
    · rw [if_neg hk] at h
      have hne : (G.att f == G.att k) = false := by
        rw [beq_eq_false_iff_ne]
        exact fun z => hk (att_inj hd z).symm
      rw [hne]
      exact look_zip hd r2 h
theorem look_fs (hd : Hd G) {f : Nat} {m : List Addr} {H : Hp} {fs : List (Nat × D)} {vs : List V} {d : D} (r : RepL G m H (fs.map (·.2)) vs) (h : lookN f fs = some d) : ∃ v, ((fs.map fun g => G.att g.1).zip vs).lookup (G.att f) = some v ∧ Rep G m H d v := by
  have e : fs = (fs.map (·.1)).zip (fs.map (·.2)) := by
    clear h r
    induction fs with
    | nil => rfl
    | cons a l ih =>
      simp only [List.map_cons, List.zip_cons_cons]
      rw [← ih]
  rw [e] at h
  have := look_zip hd r h
  rw [List.map_map] at this
  exact this
theorem look_none (hd : Hd G) {f : Nat} : ∀ {ks : List Nat} {vs : List V}, ks.contains f = false → ((ks.map G.att).zip vs).lookup (G.att f) = none
  | [], _, _ => by simp
  | k :: ks, [], _ => by simp
  | k :: ks, v :: vs, h => by
    simp only [List.contains_cons, Bool.or_eq_false_iff, beq_eq_false_iff_ne] at h
    simp only [List.map_cons, List.zip_cons_cons, List.lookup_cons]
    have hne : (G.att f == G.att k) = false := by
      rw [beq_eq_false_iff_ne]
      exact fun z => h.1 (att_inj hd z)
    rw [hne]
    exact look_none hd h.2
end
section
variable {G : Pg} {n : Nat} {X : Cx} {s : Sx} {W : WX} {C : Cs} {e x y z : Expr} {p pos apos : Pos} {a b : Ex} {es : List Expr} {l l2 : Exs}
theorem mem_look {f : Nat} : ∀ {ks : List Nat} {ds : List D} {d : D}, lookN f (ks.zip ds) = some d → ks.contains f = true
  | [], _, _, h => by simp [lookN] at h
  | k :: ks, [], _, h => by simp [lookN] at h
  | k :: ks, d :: ds, e, h => by
    simp only [List.zip_cons_cons, lookN] at h
    simp only [List.contains_cons, Bool.or_eq_true, beq_iff_eq]
    by_cases hk : k = f
    · exact .inl hk.symm
    · rw [if_neg hk] at h
      exact .inr (mem_look h)
theorem cls_lt {c f : Nat} {T : Tb} (h : (fldsOf T c).contains f = true) : c < T.cls.length := by
  unfold fldsOf at h
  split at h
  · rename_i e
    exact (List.getElem?_eq_some_iff.mp e).1
  · simp at h
theorem r_att (hd : Hd G) (c : Ctx G n X s W) (hT : C.T = G.T) {f : Nat} {nm : Str} (hn : G.M.atts[f]? = some nm) (ha : PE X x (tE G W (evE C a))) (hs : noSup x = true) : PE X (.Attribute x nm pos) (tE G W (evE C (.att a f))) := by
  rw [← att_of hn]
  refine pe_imp (pe_fld ha (base_of hs)) fun σ H Q ⟨m, ρ, S, re, rs, q⟩ => ?_
  simp only [evE] at q
  refine tX.go re rs q fun d S1 m1 H1 v1 x1 re1 rs1 r1 q1 => ?_
  obtain ⟨u, eu, q2⟩ := q1.at_oe
  rw [hT] at eu
  rw [c.K]
  unfold attD at eu
  split at eu
  · rename_i k l
    have hk := mem_look eu
    obtain ⟨A, vs, rfl, ⟨_, dx, hA⟩, r⟩ := r1.obj_inv
    obtain ⟨w, hw, rw_⟩ := look_zip hd r eu
    exact ⟨A, _, dx, _, w, rfl, hA, (hd.cls k (cls_lt hk)).cls, hd.na k f hk, hw, q2.at_ok rs1 rw_⟩
  · rename_i i
    split at eu
    · rename_i k fs es
      split at eu
      · rename_i hk
        obtain ⟨A, rfl, hA⟩ := r1.ref_inv
        obtain ⟨A', hA', dx, vs, hv, r⟩ := rs1.cel _ _ es
        rw [hA] at hA'; cases hA'
        obtain ⟨w, hw, rw_⟩ := look_fs hd r eu
        exact ⟨A, _, dx, _, w, rfl, hv, (hd.cls k (cls_lt hk)).cls, hd.na k f hk, hw, q2.at_ok rs1 rw_⟩
      · cases eu
    · cases eu
  · cases eu
/-! #### calls -/
theorem r_call (hd : Hd G) (np : NpOk G) (c : Ctx G n X s W) (hC : C = csOf G.T n) {f : Nat} {nm : Str} (hg : gloB s nm = true) (hn : G.M.fns[f]? = some nm) (hl : chkL G.M l s es = true) (ha : PA X es (tL G W (evL C l))) (hf : f < G.T.fns.length) :
    PE X (.Call (.Name nm p) es [] pos) (tE G W (evE C (.call f l))) := by
  obtain ⟨g1, g2, g3, g4, g5⟩ := c.glo hg
  obtain ⟨f1, f2⟩ := hd.fn f nm hn g5
  refine pe_imp (pe_anyc (r := fun vs zs σ H Q => ∃ m S ds, zs = [] ∧ RS G m H S ∧ RepL G m H ds vs ∧ Fin G W σ (Rep G) m H (run G.T n f ds S) fun _ _ _ H' v => Q v H') g1 (by rw [c.mg]; exact f1) (by rw [c.K]; exact f2) g2 (chkL_star _ _ _ hl) rfl ha (fun e σ H Q q => nil_of hl e q) pk_nil ?_) fun σ H Q ⟨m, ρ, S, re, rs, q⟩ => ?_
  · rintro pins st σ H vs zs us ws Q I rv rz ⟨m, S, ds, rfl, rs, r, q⟩
    cases rz
    have hb : run G.T n f ds S ≠ .bad := fun e => by rw [e] at q; exact q.elim
    obtain ⟨F, eF, hlF⟩ := run_len hb
    have hz : us.length = (G.ps f).length := by rw [np f F eF, ← hlF, r.length, rv.length]
    have b := hd.pos f hf st us (by rw [← c.K]; exact I.kIn) (by rw [app_nil]; exact hz)
    rw [app_nil] at b
    exact run_ev np c c.lv c.room hf b I rv rs r q
  · rw [hC] at q ⊢
    simp only [evE, csOf_fn] at q
    refine tX.go re rs q fun ds S1 m1 H1 vs x1 re1 rs1 r1 q1 => ?_
    exact ⟨m1, S1, ds, rfl, rs1, r1, q1⟩
theorem r_calk (hd : Hd G) (np : NpOk G) (c : Ctx G n X s W) (hC : C = csOf G.T n) {f : Nat} {nm : Str} {qs : List Keyword} {pm : List Nat} (hg : gloB s nm = true) (hn : G.M.fns[f]? = some nm) (hl : chkL G.M l s es = true) (ha : PA X es (tL G W (evL C l)))
    (hq : kwAll qs = true) (hk : PK X qs (tL G W (evL C l2))) (hk2 : chkL G.M l2 s (kwE qs) = true) (hm : (f, es.length, kwN qs, pm) ∈ G.M.kws) : PE X (.Call (.Name nm p) es qs pos) (tE G W (evE C (.calk f l l2 pm))) := by
  obtain ⟨g1, g2, g3, g4, g5⟩ := c.glo hg
  obtain ⟨f1, f2⟩ := hd.fn f nm hn g5
  obtain ⟨hf, kw⟩ := hd.kw _ _ _ _ hm
  refine pe_imp (pe_anyc (r := fun vs zs σ H Q => ∃ m S ds ks ws, vs.length = es.length ∧ zs.length = (kwN qs).length ∧ RS G m H S ∧ RepL G m H (ds ++ ks) (vs ++ zs) ∧ pick (ds ++ ks) pm = some ws ∧ Fin G W σ (Rep G) m H (run G.T n f ws S) fun _ _ _ H' v => Q v H') g1 (by rw [c.mg]; exact f1) (by rw [c.K]; exact f2) g2 (chkL_star _ _ _ hl) hq ha (fun e σ H Q q => nil_of hl e q) hk ?_) fun σ H Q h => ?_
  · rintro pins st σ H vs zs us ws Q I rv rz ⟨m, S, ds, ks, xs, l1, l2, rs, r, ep, q⟩
    obtain ⟨xv, ex, rx⟩ := r.pick pm ep
    obtain ⟨xu, eu, ru⟩ := vals_pick (rv.append rz) pm ex
    obtain ⟨xu', eu', b⟩ := kw st us ws (by rw [← c.K]; exact I.kIn) (by rw [← rv.length]; exact l1) (by rw [← rz.length]; exact l2)
    rw [eu] at eu'; cases eu'
    exact run_ev np c c.lv c.room hf b I ru rs rx q
  · rw [hC] at h ⊢
    obtain ⟨m, ρ, S, re, rs, q⟩ := h
    simp only [evE, csOf_fn] at q
    refine tX.goe re rs q fun ds S1 m1 H1 vs e1 x1 re1 rs1 r1 q1 => ?_
    refine tX.goe re1 rs1 q1 fun zs S2 m2 H2 us e2 x2 re2 rs2 r2 q2 => ?_
    obtain ⟨ws, ep, q3⟩ := q2.at_o
    exact ⟨m2, S2, ds, zs, ws, by rw [← r1.length, evL_len l e1, chkL_len l es hl], by rw [← r2.length, evL_len l2 e2, chkL_len l2 _ hk2, kwN_length], rs2, (RepL.mono x2 _ _ r1).append r2, ep, q3⟩
/-! #### new instances -/
/-- the instance laid, its __init__ run, its end as the evaluator says -/
theorem mak_fin {T : Tb} {fn1 : Nat → List D → Store → Rs D} (hT : T = G.T) {σ : L2.St} {m : List Addr} {H : Hp} {S : Store} {q : Addr} {dx : Addr} {k i : Nat} {Cc : Cl} {f : Bool} {ds : List D} {vs : List V} {Q : VK} (rs : RS G m H S) (r : RepL G m H ds vs) (hc : G.T.cls[k]? = some Cc) (hi : Cc.init = some i)
    (hq : H q = none) (hx : H dx = none) (ne : dx ≠ q) (h : Fin G W σ (Rep G) m H (makD T fn1 f k ds S) fun _ _ _ H' v => Q v H') :
    RS G (m ++ [q]) (upd (upd H dx (.own q)) q (.ins (G.ca k) dx [])) (S ++ [.ins k []]) ∧ RepL G (m ++ [q]) (upd (upd H dx (.own q)) q (.ins (G.ca k) dx [])) (.ref S.length :: ds) (.ref q :: vs) ∧
      Fin G W σ (Rep G) (m ++ [q]) (upd (upd H dx (.own q)) q (.ins (G.ca k) dx [])) (fn1 i (.ref S.length :: ds) (S ++ [.ins k []])) fun _ _ _ H' v => v = .non ∧ Q (.ref q) H' := by
  subst hT
  have x1 : Ext m H m (upd H dx (.own q)) := Ext.new hx
  have rs1 : RS G m (upd H dx (.own q)) S := rs.new hx
  have hq1 : upd H dx (.own q) q = none := by rw [upd_ne (Ne.symm ne)]; exact hq
  have x2 : Ext m (upd H dx (.own q)) (m ++ [q]) (upd (upd H dx (.own q)) q (.ins (G.ca k) dx [])) := Ext.cell hq1
  have rs2 : RS G (m ++ [q]) (upd (upd H dx (.own q)) q (.ins (G.ca k) dx [])) (S ++ [.ins k []]) := rs1.cell hq1 ⟨dx, [], by simp only [List.map_nil, List.zip_nil_left]; exact upd_same, by simp only [List.map_nil]; exact RepL.nil⟩
  have x3 := x1.trans x2
  have hm : (m ++ [q])[S.length]? = some q := by rw [← rs.len]; simp
  have hqm : q ∉ m := rs.fresh hq
  refine ⟨rs2, RepL.cons (rep_ref hm) (RepL.mono x3 _ _ r), ?_⟩
  unfold makD at h
  rw [hc] at h
  simp only [hi] at h
  generalize fn1 i (.ref S.length :: ds) (S ++ [.ins k []]) = R at h ⊢
  cases R with
  | bad => exact h
  | ex c l S' =>
    intro m' H' d xx rs' xr
    simp only at h
    split at h
    · rename_i hb
      rw [Bool.and_eq_true] at hb
      obtain ⟨rs4, x4⟩ := rs'.drop (x3.trans xx) rs hb.1
      obtain ⟨us, hd1, ru, hl⟩ := xr
      exact h m H' d x4 rs4 ⟨us, hd1, RepL.less (x3.trans xx).pre _ _ (by rw [rs.len]; exact hb.2) ru, hl⟩
    · exact h m' H' d (x3.trans xx) rs' xr
  | ok d S' =>
    cases d with
    | non =>
      intro m' H' v xx rs' rv
      refine ⟨rv.non_inv, ?_⟩
      simp only at h
      split at h
      · exact h m' H' _ (x3.trans xx) rs' (rep_ref (pre_get xx.pre hm))
      · split at h
        · rename_i c' fs es
          split at h
          · rename_i hb
            obtain ⟨e1, e2, e3, e4⟩ := hb
            subst e1
            obtain ⟨rs4, x4⟩ := rs'.drop (x3.trans xx) rs e4
            obtain ⟨p', hp', dx', us, hv, ru⟩ := rs'.cel _ _ es
            have ep : p' = q := by
              have := pre_get xx.pre hm
              rw [this] at hp'
              exact (Option.some.inj hp').symm
            subst ep
            refine h m H' _ x4 rs4 (rep_obj ⟨hqm, dx', ?_⟩ (RepL.less (x3.trans xx).pre _ _ (by rw [rs.len]; exact e3) ru))
            rw [hv]
            unfold namesOf fldsOf
            rw [hc]
            simp only
            rw [← e2, List.map_map]
            rfl
          · exact h.elim
        · exact h.elim
    | _ => exact h.elim
theorem run_mk (np : NpOk G) (hd : Hd G) (c : Ctx G (n + 1) X s W) {pins : List (Addr × Obj)} {σ : L2.St} {m : List Addr} {H : Hp} {S : Store} {st : Shared} {k i : Nat} {Cc : Cl} {f : Bool} {ds : List D} {vs : List V} {us zs : List Value} {kw : List (Str × Value)} {Q : VK} (I : L2.Inv X pins σ H st) (rs : RS G m H S) (r : RepL G m H ds vs) (hc : G.T.cls[k]? = some Cc) (hi : Cc.init = some i)
    (rv : Vals vs zs) (b : ∀ (st' : Shared) (z : Value), G.K.In st'.heap → BindsTo st' (G.fd i) ⟨z :: us, kw⟩ ((G.ps i).zip (z :: zs)))
    (h : Fin G W σ (Rep G) m H (makD G.T (run G.T n) f k ds S) fun _ _ _ H' v => Q v H') : wpAny (model X.prog X.w) X.A (call (.ref (G.ca k)) us kw) (EP X pins σ Q) X.xe st := by
  obtain ⟨hf, M⟩ := hd.mak k Cc i hc hi
  rw [← c.K] at M
  obtain ⟨rs2, r2, h2⟩ := mak_fin (q := st.heap.objs.size + 1) (dx := st.heap.objs.size) rfl rs r hc hi (I.hok.fresh (Nat.le_succ _)) (I.hok.fresh (Nat.le_refl _)) (Nat.ne_of_lt (Nat.lt_succ_self _)) h
  have I2 := Inv.made (C := G.ca k) I
  have F := c.lv1 n rfl i hf
  rw [← c.prog, ← c.w, ← c.K, ← c.mg, ← c.base] at F
  have px := c.pass σ
  rw [← c.prog, ← c.w] at px
  have rz : Vals (V.ref (st.heap.objs.size + 1) :: vs) (Value.ref (st.heap.objs.size + 1) :: zs) := .cons rfl rv
  refine wpAny_call (make_map (f := G.fa i) I.kIn M.makes M.init (beq_iff_eq.mp M.fn) (codeAny_mono (F.run _ X.stack _ _ ⟨Value.ref (st.heap.objs.size + 1) :: us, kw⟩ _ _ _ (WE W σ) (c.room.make (G.ca k) us kw) (I2.env0.make (G.ca k) us kw) (b _ _ (by rw [← c.K]; exact I2.kIn)) rz (spF_of np rs2 r2 h2)) fun q s' hq => ?_))
  cases q with
  | error e => exact px pins _ _ e s' I2 hq
  | ok fl =>
    cases fl with
    | ret u =>
      obtain ⟨v, H', I3, ru, ev, q3⟩ := I2.after hq
      subst ev
      exact ⟨ru, ⟨V.ref (st.heap.objs.size + 1), H', I3, rfl, q3⟩⟩
    | next => exact False.elim hq
    | brk => exact False.elim hq
    | cont => exact False.elim hq
theorem mak_zero {T : Tb} {k : Nat} {f : Bool} {ds : List D} {S : Store} : makD (csOf T 0).T (csOf T 0).fn1 f k ds S = .bad := by
  unfold makD
  split
  · split
    · rfl
    · rfl
  · rfl
theorem Ctx.bind (c : Ctx G n X s W) (hd : Hd G) (np : NpOk G) {i : Nat} (hi : i < G.T.fns.length) {us : List Value} {st : Shared} (hl : us.length = (G.ps i).length) (hK : G.K.In st.heap) : BindsTo st (G.fd i) ⟨us, []⟩ ((G.ps i).zip us) := by
  have b := hd.pos i hi st us hK (by rw [app_nil]; exact hl)
  rw [app_nil] at b
  exact b
theorem makD_len (np : NpOk G) {f : Bool} {k i : Nat} {Cc : Cl} {ds : List D} {S : Store} (hc : G.T.cls[k]? = some Cc) (hi : Cc.init = some i) (h : makD G.T (run G.T n) f k ds S ≠ .bad) : ds.length + 1 = (G.ps i).length := by
  have hb : run G.T n i (.ref S.length :: ds) (S ++ [.ins k []]) ≠ .bad := fun e => h (by
    unfold makD
    rw [hc]
    simp only [hi]
    rw [e])
  obtain ⟨F, eF, hF⟩ := run_len hb
  rw [np i F eF, ← hF]; rfl
theorem r_mak (hd : Hd G) (np : NpOk G) (c : Ctx G n X s W) (hC : C = csOf G.T n) {k : Nat} {f : Bool} {nm : Str} (hg : gloB s nm = true) (hn : G.M.cls[k]? = some nm) (hl : chkL G.M l s es = true) (ha : PA X es (tL G W (evL C l))) :
    PE X (.Call (.Name nm p) es [] pos) (tE G W (evE C (.mak f k l))) := by
  obtain ⟨g1, g2, g3, g4, g5⟩ := c.glo hg
  obtain ⟨hk, f1⟩ := hd.cmg k nm hn
  obtain ⟨Cc, hc⟩ : ∃ Cc, G.T.cls[k]? = some Cc := ⟨_, List.getElem?_eq_getElem hk⟩
  obtain ⟨i, hi⟩ := hd.ini k Cc hc
  obtain ⟨hf, M⟩ := hd.mak k Cc i hc hi
  refine pe_imp (pe_anyc (r := fun vs zs σ H Q => ∃ m S ds, zs = [] ∧ RS G m H S ∧ RepL G m H ds vs ∧ Fin G W σ (Rep G) m H (makD C.T C.fn1 f k ds S) fun _ _ _ H' v => Q v H') g1 (by rw [c.mg]; exact f1) (by rw [c.K]; exact M.kp) g2 (chkL_star _ _ _ hl) rfl ha (fun e σ H Q q => nil_of hl e q) pk_nil ?_) fun σ H Q ⟨m, ρ, S, re, rs, q⟩ => ?_
  · rintro pins st σ H vs zs us ws Q I rv rz ⟨m, S, ds, rfl, rs, r, q⟩
    cases rz
    rw [hC] at q
    cases n with
    | zero => rw [mak_zero] at q; exact q.elim
    | succ n =>
      rw [csOf_T, csOf_fn1] at q
      have hb : makD G.T (run G.T n) f k ds S ≠ .bad := fun e => by rw [e] at q; exact q.elim
      have hz := makD_len np hc hi hb
      exact run_mk np hd c I rs r hc hi rv (fun st' z hK => c.bind hd np hf (by simp only [List.length_cons]; rw [← rv.length, ← r.length]; exact hz) hK) q
  · simp only [evE] at q
    refine tX.go re rs q fun ds S1 m1 H1 vs x1 re1 rs1 r1 q1 => ?_
    exact ⟨m1, S1, ds, rfl, rs1, r1, q1⟩
theorem r_makk (hd : Hd G) (np : NpOk G) (c : Ctx G n X s W) (hC : C = csOf G.T n) {k : Nat} {f : Bool} {nm : Str} {qs : List Keyword} {pm : List Nat} (hg : gloB s nm = true) (hn : G.M.cls[k]? = some nm) (hl : chkL G.M l s es = true) (ha : PA X es (tL G W (evL C l)))
    (hq : kwAll qs = true) (hkw : PK X qs (tL G W (evL C l2))) (hk2 : chkL G.M l2 s (kwE qs) = true) (hm : (k, es.length, kwN qs, pm) ∈ G.M.ckw) : PE X (.Call (.Name nm p) es qs pos) (tE G W (evE C (.makk f k l l2 pm))) := by
  obtain ⟨g1, g2, g3, g4, g5⟩ := c.glo hg
  obtain ⟨hk, f1⟩ := hd.cmg k nm hn
  obtain ⟨Cc, hc⟩ : ∃ Cc, G.T.cls[k]? = some Cc := ⟨_, List.getElem?_eq_getElem hk⟩
  obtain ⟨i, hi⟩ := hd.ini k Cc hc
  obtain ⟨hf, M⟩ := hd.mak k Cc i hc hi
  have kw := hd.ckw _ _ _ _ _ _ hm hc hi
  refine pe_imp (pe_anyc (r := fun vs zs σ H Q => ∃ m S ds ks ws, vs.length = es.length ∧ zs.length = (kwN qs).length ∧ RS G m H S ∧ RepL G m H (ds ++ ks) (vs ++ zs) ∧ pick (ds ++ ks) pm = some ws ∧ Fin G W σ (Rep G) m H (makD C.T C.fn1 f k ws S) fun _ _ _ H' v => Q v H') g1 (by rw [c.mg]; exact f1) (by rw [c.K]; exact M.kp) g2 (chkL_star _ _ _ hl) hq ha (fun e σ H Q q => nil_of hl e q) hkw ?_) fun σ H Q h => ?_
  · rintro pins st σ H vs zs us ws Q I rv rz ⟨m, S, ds, ks, xs, l1, l2, rs, r, ep, q⟩
    obtain ⟨xv, ex, rx⟩ := r.pick pm ep
    obtain ⟨xu, eu, ru⟩ := vals_pick (rv.append rz) pm ex
    rw [hC] at q
    cases n with
    | zero => rw [mak_zero] at q; exact q.elim
    | succ n =>
      rw [csOf_T, csOf_fn1] at q
      refine run_mk np hd c I rs rx hc hi ru (fun st' z hK => ?_) q
      obtain ⟨xu', eu', b⟩ := kw st' z us ws hK (by rw [← rv.length]; exact l1) (by rw [← rz.length]; exact l2)
      rw [eu] at eu'; cases eu'
      exact b
  · obtain ⟨m, ρ, S, re, rs, q⟩ := h
    simp only [evE] at q
    refine tX.goe re rs q fun ds S1 m1 H1 vs e1 x1 re1 rs1 r1 q1 => ?_
    refine tX.goe re1 rs1 q1 fun zs S2 m2 H2 us e2 x2 re2 rs2 r2 q2 => ?_
    obtain ⟨ws, ep, q3⟩ := q2.at_o
    exact ⟨m2, S2, ds, zs, ws, by rw [← r1.length, evL_len l e1, chkL_len l es hl], by rw [← r2.length, evL_len l2 e2, chkL_len l2 _ hk2, kwN_length], rs2, (RepL.mono x2 _ _ r1).append r2, ep, q3⟩
/-! #### o.m(..) -/
theorem meth_tree {o : Expr} {nm : Str} {env : Env} (hb : noSup o = true) (hst : es.all noStar = true) (hl : es.length < 20) (hp : (apos.endLine == pos.line) = true) :
    ∃ pl, eval (.Call (.Attribute o nm apos) es [] pos) env = (do
      let ov ← eval o env
      standAt apos.atName
      let (f, first) ← holding [ov] (getMethod ov nm pl)
      callWith pos f first (backTo pos (starEach es env)) (backToKw pos (keywordEach [] env))) := by
  refine ⟨(do return (← importBound o env).getD true), mcall_of (base_of hb) fun ov => ?_⟩
  have hall : (backTo pos (starEach es env)).all (fun x => !x.1) = true := by
    have h := any_star (env := env) (pos := pos) hst
    generalize backTo pos (starEach es env) = l at h
    induction l with
    | nil => rfl
    | cons a l ih =>
      simp only [List.any_cons, Bool.or_eq_false_iff] at h
      simp only [List.all_cons, Bool.and_eq_true, Bool.not_eq_true']
      exact ⟨h.1, ih h.2⟩
  have hform : methodCallForm (es.length + ([] : List Keyword).length) (backTo pos (starEach es env)) (backToKw pos (keywordEach [] env)) = true := by
    unfold methodCallForm
    rw [hall]
    have : (backToKw pos (keywordEach [] env)) = [] := rfl
    rw [this]
    simp only [List.all_nil, Bool.true_and, List.isEmpty_nil, if_true, List.length_nil, Nat.add_zero, decide_eq_true_eq]
    omega
  unfold methodCall
  rw [hform]
  unfold methodCallPos calleeOf
  simp only [hp, Bool.not_true, Bool.false_or, if_true, pure_bind]
end
end Ev
end
section
set_option maxRecDepth 100000
set_option maxHeartbeats 4000000
/-! Ev, part 12: methods, built-ins, isinstance. -/
namespace Ev
open PySem PySem.Spec PyProof.Rows L2
section
variable {G : Pg} {n : Nat} {X : Cx} {s : Sx} {W : WX} {C : Cs} {e x y z : Expr} {p pos apos : Pos} {a b : Ex} {es : List Expr} {l l2 : Exs}
theorem r_mth (hd : Hd G) (np : NpOk G) (c : Ctx G n X s W) (hC : C = csOf G.T n) {f : Nat} {nm : Str} (hn : G.M.atts[f]? = some nm) (hl : chkL G.M l s es = true) (ho : PE X x (tE G W (evE C a))) (hs : noSup x = true) (ha : PA X es (tL G W (evL C l)))
    (hz : es.length < 20) (hp : (apos.endLine == pos.line) = true) : PE X (.Call (.Attribute x nm apos) es [] pos) (tE G W (evE C (.mth a f l))) := by
  subst hC
  obtain ⟨pl, tree⟩ := meth_tree (es := es) (env := X.env) (nm := nm) hs (chkL_star _ _ _ hl) hz hp
  rw [← att_of hn] at tree ⊢
  refine ⟨fun pins st σ H Q I h => methcall_of ho I ?_ tree⟩
  obtain ⟨m, ρ, S, re, rs, q⟩ := h
  simp only [evE] at q
  refine tX.go re rs q fun d S1 m1 H1 v1 x1 re1 rs1 r1 q1 => ?_
  obtain ⟨g, eg, q2⟩ := q1.at_o
  rw [csOf_T] at eg
  -- the instance
  obtain ⟨A, k, dx, fs, hv, hA, hk, hm, hno⟩ : ∃ A k dx fs, v1 = .ref A ∧ H1 A = some (.ins (G.ca k) dx fs) ∧ k < G.T.cls.length ∧ mthC G.T k f = some g ∧ fs.lookup (G.att f) = none := by
    unfold mthOf at eg
    split at eg
    · rename_i k l
      split at eg
      · cases eg
      · rename_i hc
        obtain ⟨A, vs, rfl, ⟨_, dx, hA⟩, r⟩ := r1.obj_inv
        refine ⟨A, k, dx, _, rfl, hA, ?_, eg, look_none hd (by simpa using hc)⟩
        unfold mthC at eg
        split at eg
        · rename_i e
          exact (List.getElem?_eq_some_iff.mp e).1
        · cases eg
    · rename_i i
      split at eg
      · rename_i k fs es
        split at eg
        · cases eg
        · rename_i hc
          obtain ⟨A, rfl, hA⟩ := r1.ref_inv
          obtain ⟨A', hA', dx, vs, hv, r⟩ := rs1.cel _ _ es
          rw [hA] at hA'; cases hA'
          have hno := look_none hd (vs := vs) (show (fs.map (·.1)).contains f = false by simpa using hc)
          rw [List.map_map] at hno
          refine ⟨A, k, dx, _, rfl, hv, ?_, eg, hno⟩
          unfold mthC at eg
          split at eg
          · rename_i e
            exact (List.getElem?_eq_some_iff.mp e).1
          · cases eg
      · cases eg
    · cases eg
  obtain ⟨Cc, hc⟩ : ∃ Cc, G.T.cls[k]? = some Cc := ⟨_, List.getElem?_eq_getElem hk⟩
  unfold mthC at hm
  rw [hc] at hm
  obtain ⟨hg, hM⟩ := hd.mth k Cc f g hc hm
  subst hv
  refine ⟨A, G.ca k, dx, fs, G.fa g, rfl, hA, by rw [c.K]; exact (hd.cls k hk).cls, by rw [c.K]; exact hM, hno, fun s1 I1 => ?_⟩
  have hkp : PySem.W.keepIn X.K (.ref (G.fa g)) = true := by rw [c.K]; exact hM.kp
  -- the arguments, then the call
  have fin : ∀ (s2 : Shared) (us : List Value) (vs : List V) (m2 : List Addr) (H2 : Hp) (S2 : Store) (ds : List D), L2.Inv X pins σ H2 s2 → Vals vs us → Ext m1 H1 m2 H2 → RS G m2 H2 S2 → RepL G m2 H2 ds vs →
      (Fin G W σ (Rep G) m2 H2 ((csOf G.T n).fn g (d :: ds) S2) fun _ _ _ H' v => Q v H') → wpAny (model X.prog X.w) X.A (call (.ref (G.fa g)) (.ref A :: us)) (EP X pins σ Q) X.xe s2 := by
    intro s2 us vs m2 H2 S2 ds I2 rv x2 rs2 r2 q3
    rw [csOf_fn] at q3
    have rr : RepL G m2 H2 (d :: ds) (.ref A :: vs) := RepL.cons (Rep.mono x2 _ _ r1) r2
    have hb : run G.T n g (d :: ds) S2 ≠ .bad := fun e => by rw [e] at q3; exact q3.elim
    obtain ⟨F, eF, hF⟩ := run_len hb
    have rv2 : Vals (V.ref A :: vs) (Value.ref A :: us) := .cons rfl rv
    exact run_ev np c c.lv c.room hg (c.bind hd np hg (by rw [np g F eF, ← hF, rr.length, rv2.length]) (by rw [← c.K]; exact I2.kIn)) I2 rv2 rs2 rr q3
  cases es with
  | nil =>
    refine PySem.W.callWith_K0 (first := [.ref A]) I1.kIn hkp ?_
    have q0 : tL G W (evL (csOf G.T n) l) σ H1 fun vs H2 => vs = [] → ∃ m2 S2 ds, Ext m1 H1 m2 H2 ∧ RS G m2 H2 S2 ∧ RepL G m2 H2 ds vs ∧ Fin G W σ (Rep G) m2 H2 ((csOf G.T n).fn g (d :: ds) S2) fun _ _ _ H' v => Q v H' :=
      tX.go re1 rs1 q2 fun ds S2 m2 H2 vs x2 re2 rs2 r2 q3 => fun _ => ⟨m2, S2, ds, x2, rs2, r2, q3⟩
    obtain ⟨m2, S2, ds, x2, rs2, r2, q3⟩ := nil_of hl rfl q0 rfl
    exact fin s1 [] [] m2 H1 S2 ds I1 .nil x2 rs2 r2 q3
  | cons e0 es0 =>
    have hst := chkL_star _ _ _ hl
    have hs0 := hst
    simp only [List.all_cons, Bool.and_eq_true] at hs0
    refine PySem.W.callWith_K (first := [.ref A]) (h₀ := X.base) I1.ok.mod.kin hkp (thn (ha.run pos pins s1 σ H1 _ I1 (tX.go re1 rs1 q2 fun ds S2 m2 H2 vs x2 re2 rs2 r2 q3 => (⟨m2, S2, ds, x2, rs2, r2, q3⟩ : ∃ m2 S2 ds, Ext m1 H1 m2 H2 ∧ RS G m2 H2 S2 ∧ RepL G m2 H2 ds vs ∧ Fin G W σ (Rep G) m2 H2 ((csOf G.T n).fn g (d :: ds) S2) fun _ _ _ H' v => Q v H'))) fun us s2 hu => ?_) (star_of hs0.1) (any_star hs0.2)
    obtain ⟨vs, H2, I2, rv, m2, S2, ds, x2, rs2, r2, q3⟩ := hu
    exact ⟨I2.kIn, fin s2 us vs m2 H2 S2 ds I2 rv x2 rs2 r2 q3⟩
/-! #### built-in functions -/
theorem Ctx.blt (hd : Hd G) (c : Ctx G n X s W) {nm : Str} (h : nm ∈ bltL) : X.mg nm = none := by rw [c.mg]; exact hd.mgb nm h
theorem r_bi (hd : Hd G) (c : Ctx G n X s W) {bi : Bi} {k : Bool} (hg : gloB s bi.of = true) (hl : chkL G.M l s es = true) (ha : PA X es (tL G W (evL C l))) : PE X (.Call (.Name bi.of p) es [] pos) (tE G W (evE C (.bi bi k l))) := by
  obtain ⟨g1, g2, g3, g4, g5⟩ := c.glo hg
  have hm : X.mg bi.of = none := c.blt hd (by cases bi <;> decide)
  have imp : ∀ σ H Q, tE G W (evE C (.bi bi k l)) σ H Q → tCB (rBi G bi k) (tL G W (evL C l)) σ H Q := fun σ H Q ⟨m, ρ, S, re, rs, q⟩ => by
    simp only [evE] at q
    exact tX.go re rs q fun ds S1 m1 H1 vs x1 re1 rs1 r1 q1 => ⟨m1, S1, ds, rs1, r1, q1.toV (noEx_bi _ _ _ _)⟩
  cases es with
  | nil =>
    refine pe_bad fun σ H Q q => ?_
    have q2 := imp σ H Q q
    have q3 := nil_of (C := C) hl rfl q2
    obtain ⟨m, S, ds, rs, r, q4⟩ := q3
    cases ds with
    | nil => cases bi <;> exact q4.elim
    | cons d ds => simp [RepL] at r
  | cons e0 es0 =>
    have hst := chkL_star _ _ _ hl
    have hs0 := hst
    simp only [List.all_cons, Bool.and_eq_true] at hs0
    have hc := call_bi (G := G) (X := X) c.K c.calm bi k
    cases bi <;> first
      | exact pe_imp (pe_callB hc g1 hm (by rfl) ha g3 g2 (star_of hs0.1) (any_star hs0.2)) imp
      | exact pe_imp (pe_callTy hc g1 hm (by rfl) ha g3 g2 (star_of hs0.1) (any_star hs0.2)) imp
/-! #### isinstance -/
theorem pe_ty (hd : Hd G) (c : Ctx G n X s W) {t : Ty} (h : tyB G.M t s x = true) : PE X x (tC (t.val G)) ∧ noStar x = true := by
  unfold tyB at h
  split at h
  · simp only [Bool.and_eq_true] at h
    obtain ⟨h1, h2⟩ := h
    obtain ⟨g1, g2, g3, g4, g5⟩ := c.glo h1
    refine ⟨?_, rfl⟩
    split at h2
    · rename_i t
      simp only [decide_eq_true_eq] at h2
      subst h2
      have hm : X.mg t.of = none := c.blt hd (by cases t <;> decide)
      cases t <;> exact pe_bltn g1 hm (by rfl) rfl g3 g2
    · simp only [decide_eq_true_eq] at h2
      exact pe_glob g1 (by rw [c.mg]; exact (hd.cmg _ _ h2).2) rfl g2
  · cases h
def tTys (vs : List V) : TA := fun _ H Q => Q vs H
theorem pa_tys (hd : Hd G) (c : Ctx G n X s W) : ∀ {ts : List Ty} {es : List Expr}, tysB G.M s ts es = true → PA X es (tTys (ts.map fun t => t.val G)) ∧ es.length = ts.length
  | [], [], _ => ⟨pa_imp pa_nil fun _ _ _ q => q, rfl⟩
  | t :: ts, e :: es, h => by
    simp only [tysB, Bool.and_eq_true] at h
    obtain ⟨h1, h2⟩ := pe_ty hd c h.1
    obtain ⟨h3, h4⟩ := pa_tys hd c h.2
    exact ⟨pa_imp (pa_cons h1 h3 (star_of h2)) fun _ _ _ q => q, congrArg Nat.succ h4⟩
  | [], _ :: _, h => by simp [tysB] at h
  | _ :: _, [], h => by simp [tysB] at h
theorem paired_tys : ∀ (ts : List Ty), Paired ClsV (ts.map fun t => t.val G) (ts.map fun t => t.vlu G)
  | [] => .nil
  | t :: ts => .cons (ty_clsV t) (paired_tys ts)
theorem t_isI {ts : List Ty} {σ : L2.St} {H : Hp} {Q : VK} {pt : Bool} (h : tE G W (evE C (.isI a ts pt)) σ H Q) : tE G W (evE C a) σ H fun v H1 => ∃ m d S k, RS G m H1 S ∧ Rep G m H1 d v ∧ isAny C.T d S ts = some k ∧ (∀ m' H', Ext m H1 m' H' → RS G m' H' S → Q (.bl k) H') := by
  obtain ⟨m, ρ, S, re, rs, q⟩ := h
  simp only [evE] at q
  refine tX.go re rs q fun d S1 m1 H1 v1 x1 re1 rs1 r1 q1 => ?_
  obtain ⟨k, ek, q2⟩ := q1.at_o
  exact ⟨m1, d, S1, k, rs1, r1, ek, fun m' H' x' rs' => q2 m' H' _ x' rs' rep_bl⟩
theorem r_isI1 (hd : Hd G) (c : Ctx G n X s W) (hT : C.T = G.T) {t : Ty} (hg : gloB s "isinstance" = true) (ha : PE X x (tE G W (evE C a))) (hx : noStar x = true) (ht : tyB G.M t s y = true) : PE X (.Call (.Name "isinstance" p) [x, y] [] pos) (tE G W (evE C (.isI a [t] false))) := by
  obtain ⟨g1, g2, g3, g4, g5⟩ := c.glo hg
  obtain ⟨h1, h2⟩ := pe_ty hd c ht
  have pa : PA X [x, y] (tCons (tE G W (evE C a)) (tCons (tC (t.val G)) tNil)) := pa_cons ha (pa_cons h1 pa_nil (star_of h2)) (star_of hx)
  refine pe_imp (pe_callB (call_isi (X := X)) g1 (c.blt hd (by decide)) (by rfl) pa g3 g2 (star_of hx) (any_star (by simp [h2]))) fun σ H Q q => ?_
  obtain ⟨m, ρ, S, re, rs, q1⟩ := t_isI q
  refine ⟨m, ρ, S, re, rs, q1.imp ?_⟩
  rintro d0 S0 m0 H0 v x0 rs0 r0 ⟨m1, d, S1, k, rs1, r1, ek, fin⟩
  rw [hT] at ek
  refine ⟨v, t.val G, clV G d S1, t.vlu G, k, rfl, ty_clsV t, ?_, ?_, fin m1 H0 Ext.refl rs1⟩
  · rw [c.K]; exact isAny_tyx hd.cls rs1 r1 ek
  · rw [c.K]; exact isD_kit hd.cls (isAny_one ek)
theorem r_isIT (hd : Hd G) (c : Ctx G n X s W) (hT : C.T = G.T) {ts : List Ty} {tes : List Expr} {k2 : Nat} {p2 : Pos} (hg : gloB s "isinstance" = true) (ha : PE X x (tE G W (evE C a))) (hx : noStar x = true) (ht : tysB G.M s ts tes = true) (hz : ts.length ≤ sizeLine) (h0 : ts ≠ []) : PE X (.Call (.Name "isinstance" p) [x, .Tuple tes k2 p2] [] pos) (tE G W (evE C (.isI a ts true))) := by
  obtain ⟨g1, g2, g3, g4, g5⟩ := c.glo hg
  obtain ⟨h1, h2⟩ := pa_tys hd c ht
  have pa : PA X [x, .Tuple tes k2 p2] (tCons (tE G W (evE C a)) (tCons (tTup (tTys (ts.map fun t => t.val G))) tNil)) := pa_cons ha (pa_cons (pe_tup h1) pa_nil) (star_of hx)
  refine pe_imp (pe_callB (call_isiT (X := X)) g1 (c.blt hd (by decide)) (by rfl) pa g3 g2 (star_of hx) (any_star (by rfl))) fun σ H Q q => ?_
  obtain ⟨m, ρ, S, re, rs, q1⟩ := t_isI q
  refine ⟨m, ρ, S, re, rs, q1.imp ?_⟩
  rintro d0 S0 m0 H0 v x0 rs0 r0 ⟨m1, d, S1, k, rs1, r1, ek, fin⟩
  rw [hT] at ek
  refine ⟨by rw [List.length_map]; exact hz, fun tp htp => ?_⟩
  have xx : Ext m1 H0 m1 (upd H0 tp (.tup (ts.map fun t => t.val G))) := Ext.new htp
  have rs2 := rs1.new (o := .tup (ts.map fun t => t.val G)) htp
  refine ⟨v, tp, _, clV G d S1, ts.map (fun t => t.vlu G), k, rfl, upd_same, paired_tys ts, ?_, ?_, fin m1 _ xx rs2⟩
  · rw [c.K]
    cases ts with
    | nil => exact absurd rfl h0
    | cons t ts => exact isAny_tyx hd.cls rs2 (Rep.mono xx _ _ r1) ek
  · rw [c.K]; exact isAny_kit hd.cls ek
/-! #### methods of built-in types -/
theorem r_bm1 {b : Bm} {T id : String} (hl : chkL G.M l s es = true) (ho : PE X x (tE G W (evE C a))) (hs : noSup x = true) (ha : PA X es (tL G W (evL C l))) (c : Ctx G n X s W)
    (hz : es.length < 20) (hp : (apos.endLine == pos.line) = true) (hT : T = b.ty) (hid : id = b.id) (pa : PlainAttrs T) (slot : Slot T b.of id) (hty : typeOf (.builtin id) = pure (.type "method_descriptor")) : PE X (.Call (.Attribute x b.of apos) es [] pos) (tE G W (evE C (.bm b a l))) := by
  subst hT hid
  have hm := mt_bm (G := G) (X := X) b
  cases es with
  | nil =>
    refine pe_imp (pe_bm0 pa slot hty hm ho (base_of hs) hp) fun σ H Q ⟨m, ρ, S, re, rs, q⟩ => ?_
    simp only [evE] at q
    refine tX.go re rs q fun d S1 m1 H1 v x1 re1 rs1 r1 q1 => ?_
    split at q1
    · rename_i hok
      have q2 : tL G W (evL C l) σ H1 fun xs H' => xs = [] → _ := tX.go re1 rs1 q1 fun ds S2 m2 H2 vs x2 re2 rs2 r2 q3 => fun _ => (⟨m2, S2, ds, x2, rs2, r2, q3⟩ : ∃ m2 S2 ds, Ext m1 H1 m2 H2 ∧ RS G m2 H2 S2 ∧ RepL G m2 H2 ds vs ∧ Fin G W σ (Rep G) m2 H2 (bmD b d ds S2) fun _ _ _ H' v => Q v H')
      obtain ⟨m2, S2, ds, x2, rs2, r2, q3⟩ := nil_of hl rfl q2 rfl
      exact ⟨bm_ty rs1 r1 hok, m2, S2, d, ds, rs2, Rep.mono x2 _ _ r1, r2, q3.toV (noEx_bm _ _ _ _)⟩
    · exact q1.elim
  | cons e0 es0 =>
    have hst := chkL_star _ _ _ hl
    have hs0 := hst
    simp only [List.all_cons, Bool.and_eq_true] at hs0
    have hall : ∀ {es : List Expr} {env : Env}, es.all noStar = true → (backTo pos (starEach es env)).all (fun x => !x.1) = true := fun {es env} h0 => by
      have h := any_star (env := env) (pos := pos) h0
      generalize backTo pos (starEach es env) = l at h
      induction l with
      | nil => rfl
      | cons a l ih =>
        simp only [List.any_cons, Bool.or_eq_false_iff] at h
        simp only [List.all_cons, Bool.and_eq_true, Bool.not_eq_true']
        exact ⟨h.1, ih h.2⟩
    have hfew : ((backTo pos (starEach (e0 :: es0) X.env)).all (fun x => !x.1) && (backToKw pos (keywordEach [] X.env)).all (fun x => x.1.isSome)
      && decide ((e0 :: es0).length + ([] : List Keyword).length + (if ([] : List Keyword).isEmpty then 0 else 1) < 30)) = true := by
      rw [hall hst]
      show (true && true && _) = true
      simp only [Bool.true_and, List.length_nil, List.isEmpty_nil, if_true, Nat.add_zero, decide_eq_true_eq]
      omega
    refine pe_imp (pe_bm pa slot hty hm ho ha (base_of hs) hfew hp (star_of hs0.1) (any_star hs0.2)) fun σ H Q ⟨m, ρ, S, re, rs, q⟩ => ?_
    simp only [evE] at q
    refine tX.go re rs q fun d S1 m1 H1 v x1 re1 rs1 r1 q1 => ?_
    split at q1
    · rename_i hok
      exact ⟨bm_ty rs1 r1 hok, tX.go re1 rs1 q1 fun ds S2 m2 H2 vs x2 re2 rs2 r2 q3 => ⟨m2, S2, d, ds, rs2, Rep.mono x2 _ _ r1, r2, q3.toV (noEx_bm _ _ _ _)⟩⟩
    · exact q1.elim
theorem r_bm (c : Ctx G n X s W) {b : Bm} (hl : chkL G.M l s es = true) (ho : PE X x (tE G W (evE C a))) (hs : noSup x = true) (ha : PA X es (tL G W (evL C l)))
    (hz : es.length < 20) (hp : (apos.endLine == pos.line) = true) : PE X (.Call (.Attribute x b.of apos) es [] pos) (tE G W (evE C (.bm b a l))) := by
  cases b with
  | append => exact r_bm1 hl ho hs ha c hz hp rfl rfl F.plainAttrs_list F.slot_list_append F.type_list_append
  | pop => exact r_bm1 hl ho hs ha c hz hp rfl rfl F.plainAttrs_list F.slot_list_pop F.type_list_pop
  | extend => exact r_bm1 hl ho hs ha c hz hp rfl rfl F.plainAttrs_list F.slot_list_extend F.type_list_extend
  | index => exact r_bm1 hl ho hs ha c hz hp rfl rfl F.plainAttrs_list F.slot_list_index F.type_list_index
  | bitLength => exact r_bm1 hl ho hs ha c hz hp rfl rfl F.plainAttrs_int F.slot_int_bit_length F.type_int_bit_length
end
end Ev
end
section
set_option maxRecDepth 100000
set_option maxHeartbeats 4000000
/-! Ev, part 13: what is walked; targets; comprehensions. -/
namespace Ev
open PySem PySem.Spec PyProof.Rows L2
/-- J yields ds, one behind another, as long as the cells of g stand -/
def RY (G : Pg) (m0 : List Addr) (H0 : Hp) (p : List D × Gd) (J : It) : Prop := ∀ m H S, Ext m0 H0 m H → RS G m H S → gOk p.2 S = true → ∀ i,
  (∀ d, p.1[i]? = some d → J.go i H ∧ ∀ x H', J.yld i H x H' → Ext m H m H' ∧ RS G m H' S ∧ Rep G m H' d x) ∧ (p.1.length = i → J.stop i H)
def LstAt (G : Pg) (m0 : List Addr) (H0 : Hp) (g : Gd) (l : List D) (p : Addr) : Prop := ∀ m H S, Ext m0 H0 m H → RS G m H S → gOk g S = true → ∃ vs, Rd H p (.lst vs) ∧ RepL G m H l vs
def TupAt (G : Pg) (m0 : List Addr) (H0 : Hp) (l : List D) (p : Addr) : Prop := ∀ m H, Ext m0 H0 m H → ∃ vs, SqT G.K H p vs ∧ RepL G m H l vs
section
variable {G : Pg} {m m' : List Addr} {H H' : Hp} {S : Store}
theorem gOk_app {g k : Gd} {S : Store} : gOk (g ++ k) S = true ↔ gOk g S = true ∧ gOk k S = true := by
  unfold gOk
  simp only [decide_eq_true_eq, List.mem_append]
  constructor
  · intro h
    exact ⟨fun p hp => h p (.inl hp), fun p hp => h p (.inr hp)⟩
  · rintro ⟨h1, h2⟩ p (hp | hp)
    · exact h1 p hp
    · exact h2 p hp
theorem lstAt_of {d : D} {v : V} {l : List D} {g : Gd} (hg : ∀ S', gOk g S' = true → gOk (guard d S) S' = true) (rs : RS G m H S) (r : Rep G m H d v) (e : lstOf d S = some l) : ∃ p, v = .ref p ∧ LstAt G m H g l p := by
  obtain ⟨p, vs, rfl, hp, rl⟩ := lstOf_sq rs r e
  refine ⟨p, rfl, fun m' H' S' x rs' h => ?_⟩
  have h2 := hg S' h
  have r' := Rep.mono x _ _ r
  have e' : lstOf d S' = some l := by
    unfold lstOf at e ⊢
    split at e
    · exact e
    · rename_i n
      split at e
      · rename_i l' es
        cases e
        unfold gOk at h2
        simp only [decide_eq_true_eq] at h2
        simp only [guard, es, List.mem_singleton, forall_eq] at h2
        simp only [h2]
      · cases e
    · cases e
  obtain ⟨p', vs', ep, hp', rl'⟩ := lstOf_sq rs' r' e'
  cases ep
  exact ⟨vs', hp', rl'⟩
theorem tupAt_of {l : List D} {v : V} (r : Rep G m H (.tup l) v) : ∃ p, v = .ref p ∧ TupAt G m H l p := by
  obtain ⟨p, vs, rfl, f, rl⟩ := r.tup_inv
  exact ⟨p, rfl, fun m' H' x => ⟨vs, (f.mono x).sq, RepL.mono x _ _ rl⟩⟩
theorem LstAt.now {g : Gd} {l : List D} {p : Addr} (h : LstAt G m H g l p) (rs : RS G m H S) (k : gOk g S = true) : ∃ vs, Rd H p (.lst vs) ∧ RepL G m H l vs := h m H S Ext.refl rs k
theorem vget {l : List D} {vs : List V} {i : Nat} {d : D} {x : V} (r : RepL G m H l vs) (e : l[i]? = some d) (h : vs[i]? = some x) : Rep G m H d x := by
  obtain ⟨v, hv, q⟩ := r.get e
  rw [h] at hv; cases hv
  exact q
theorem ry_lst {g : Gd} {l : List D} {p : Addr} (h : LstAt G m H g l p) : RY G m H (l, g) (Itl G.K p) := fun m' H' S' x rs k i => by
  obtain ⟨vs, hp, r⟩ := h m' H' S' x rs k
  refine ⟨fun d hd => ?_, fun hi => ⟨vs, sq_of hp, by rw [← r.length]; exact Nat.le_of_eq hi⟩⟩
  obtain ⟨v, hv, q⟩ := r.get hd
  refine ⟨⟨vs, v, sq_of hp, hv⟩, fun y H2 hy => ?_⟩
  obtain ⟨rfl, hy⟩ := hy
  exact ⟨Ext.refl, rs, vget r hd (hy vs (sq_of hp))⟩
theorem ry_tup {g : Gd} {l : List D} {p : Addr} (h : TupAt G m H l p) : RY G m H (l, g) (Itt G.K p) := fun m' H' S' x rs k i => by
  obtain ⟨vs, hp, r⟩ := h m' H' x
  refine ⟨fun d hd => ?_, fun hi => ⟨vs, hp, by rw [← r.length]; exact Nat.le_of_eq hi⟩⟩
  obtain ⟨v, hv, q⟩ := r.get hd
  refine ⟨⟨vs, v, hp, hv⟩, fun y H2 hy => ?_⟩
  obtain ⟨rfl, hy⟩ := hy
  exact ⟨Ext.refl, rs, vget r hd (hy vs hp)⟩
theorem ry_str {s : List Nat} : RY G m H (s.map fun c => D.str [c], []) (Its ⟨s.toArray⟩) := fun m' H' S' x rs k i => by
  refine ⟨fun d hd => ?_, fun hi => ?_⟩
  · simp only [List.getElem?_map] at hd
    cases e : s[i]? with
    | none => rw [e] at hd; cases hd
    | some c =>
      rw [e] at hd
      cases hd
      have hl := (List.getElem?_eq_some_iff.mp e).1
      refine ⟨?_, fun y H2 hy => ?_⟩
      · show i < s.toArray.size
        simpa using hl
      · obtain ⟨rfl, c', hc, rfl⟩ := hy
        have hc : s.toArray[i]? = some c' := hc
        simp only [List.getElem?_toArray] at hc
        rw [e] at hc; cases hc
        exact ⟨Ext.refl, rs, rep_str⟩
  · show s.toArray.size ≤ i
    simp only [List.length_map] at hi
    simp [hi]
theorem upTo_get : ∀ (n : Nat) (lo : Int) (i : Nat), (upTo lo n)[i]? = if i < n then some (.int (lo + i)) else none
  | 0, _, _ => by simp [upTo]
  | n + 1, lo, 0 => by simp [upTo]
  | n + 1, lo, i + 1 => by
    simp only [upTo, List.getElem?_cons_succ, upTo_get n (lo + 1) i, Nat.add_lt_add_iff_right]
    split
    · congr 2; push_cast; omega
    · rfl
theorem upTo_len : ∀ (n : Nat) (lo : Int), (upTo lo n).length = n
  | 0, _ => rfl
  | n + 1, lo => congrArg Nat.succ (upTo_len n (lo + 1))
theorem ry_rng {lo : Int} {n : Nat} {g : Gd} : RY G m H (upTo lo n, g) (Itr lo n) := fun m' H' S' x rs k i => by
  refine ⟨fun d hd => ?_, fun hi => ?_⟩
  · simp only [upTo_get] at hd
    split at hd
    · rename_i hl
      cases hd
      refine ⟨hl, fun y H2 hy => ?_⟩
      obtain ⟨rfl, rfl⟩ := hy
      exact ⟨Ext.refl, rs, rep_int⟩
    · cases hd
  · simp only [upTo_len] at hi
    show n ≤ i
    omega
theorem dnTo_get : ∀ (n : Nat) (lo : Int) (i : Nat), (dnTo lo n)[i]? = if i < n then some (.int (lo + (i : Nat) * (-1))) else none
  | 0, _, _ => by simp [dnTo]
  | n + 1, lo, 0 => by simp [dnTo]
  | n + 1, lo, i + 1 => by
    simp only [dnTo, List.getElem?_cons_succ, dnTo_get n (lo - 1) i, Nat.add_lt_add_iff_right]
    split
    · congr 2; push_cast; omega
    · rfl
theorem dnTo_len : ∀ (n : Nat) (lo : Int), (dnTo lo n).length = n
  | 0, _ => rfl
  | n + 1, lo => congrArg Nat.succ (dnTo_len n (lo - 1))
theorem ry_rngD {lo : Int} {n : Nat} {g : Gd} : RY G m H (dnTo lo n, g) (Itc lo (-1) n) := fun m' H' S' x rs k i => by
  refine ⟨fun d hd => ?_, fun hi => ?_⟩
  · simp only [dnTo_get] at hd
    split at hd
    · rename_i hl
      cases hd
      refine ⟨hl, fun y H2 hy => ?_⟩
      obtain ⟨rfl, rfl⟩ := hy
      exact ⟨Ext.refl, rs, rep_int⟩
    · cases hd
  · simp only [dnTo_len] at hi
    show n ≤ i
    omega
theorem enmL_get : ∀ (l : List D) (k : Int) (i : Nat) {d : D}, (enmL k l)[i]? = some d → ∃ e, l[i]? = some e ∧ d = .tup [.int (k + i), e]
  | [], _, _, _, h => by simp [enmL] at h
  | e :: l, k, 0, d, h => by
    simp [enmL] at h
    exact ⟨e, rfl, by simp [← h]⟩
  | e :: l, k, i + 1, d, h => by
    simp only [enmL, List.getElem?_cons_succ] at h
    obtain ⟨z, e1, e2⟩ := enmL_get l (k + 1) i h
    refine ⟨z, by simpa using e1, ?_⟩
    rw [e2]
    congr 3
    push_cast; omega
theorem enmL_len : ∀ (l : List D) (k : Int), (enmL k l).length = l.length
  | [], _ => rfl
  | _ :: l, k => congrArg Nat.succ (enmL_len l (k + 1))
/-- a new pair -/
theorem pair_new {T : Addr} {d e : D} {x y : V} (rs : RS G m H S) (hT : H T = none) (r1 : Rep G m H d x) (r2 : Rep G m H e y) : Ext m H m (upd H T (.tup [x, y])) ∧ RS G m (upd H T (.tup [x, y])) S ∧ Rep G m (upd H T (.tup [x, y])) (.tup [d, e]) (.ref T) := by
  have xx : Ext m H m (upd H T (.tup [x, y])) := Ext.new hT
  exact ⟨xx, rs.new hT, rep_tup (.inl ⟨rs.fresh hT, .inl upd_same⟩) (RepL.mono xx _ _ (RepL.cons r1 (RepL.cons r2 RepL.nil)))⟩
theorem ry_enm {g : Gd} {l : List D} {p : Addr} (h : LstAt G m H g l p) : RY G m H (enmL 0 l, g) (Ite G.K p) := fun m' H' S' x rs k i => by
  obtain ⟨vs, hp, r⟩ := h m' H' S' x rs k
  refine ⟨fun d hd => ?_, fun hi => ⟨vs, sq_of hp, by rw [← r.length, ← enmL_len l 0]; exact Nat.le_of_eq hi⟩⟩
  obtain ⟨e, he, rfl⟩ := enmL_get l 0 i hd
  obtain ⟨v, hv, q⟩ := r.get he
  refine ⟨⟨vs, v, sq_of hp, hv⟩, fun y H2 hy => ?_⟩
  obtain ⟨T, z, rfl, hT, rfl, hz⟩ := hy
  have e0 : (0 : Int) + (i : Int) = ((i : Nat) : Int) := by omega
  rw [e0]
  exact pair_new rs hT rep_int (vget r he (hz vs (sq_of hp)))
theorem ry_enmT {g : Gd} {l : List D} {p : Addr} (h : TupAt G m H l p) : RY G m H (enmL 0 l, g) (Itet G.K p) := fun m' H' S' x rs k i => by
  obtain ⟨vs, hp, r⟩ := h m' H' x
  refine ⟨fun d hd => ?_, fun hi => ⟨vs, hp, by rw [← r.length, ← enmL_len l 0]; exact Nat.le_of_eq hi⟩⟩
  obtain ⟨e, he, rfl⟩ := enmL_get l 0 i hd
  obtain ⟨v, hv, q⟩ := r.get he
  refine ⟨⟨vs, v, hp, hv⟩, fun y H2 hy => ?_⟩
  obtain ⟨T, z, rfl, hT, rfl, hz⟩ := hy
  have e0 : (0 : Int) + (i : Int) = ((i : Nat) : Int) := by omega
  rw [e0]
  exact pair_new rs hT rep_int (vget r he (hz vs hp))
theorem zip_get {l k : List D} {i : Nat} {d : D} (h : ((l.zip k).map fun p => D.tup [p.1, p.2])[i]? = some d) : ∃ a b, l[i]? = some a ∧ k[i]? = some b ∧ d = .tup [a, b] := by
  simp only [List.getElem?_map, Option.map_eq_some_iff] at h
  obtain ⟨⟨a, b⟩, h1, h2⟩ := h
  rw [List.getElem?_zip_eq_some] at h1
  exact ⟨a, b, h1.1, h1.2, h2.symm⟩
theorem zip_end {l k : List D} {vs us : List V} {i : Nat} (r : RepL G m H l vs) (q : RepL G m H k us) (h : ((l.zip k).map fun p => D.tup [p.1, p.2]).length = i) : vs.length ≤ i ∨ us.length ≤ i := by
  simp only [List.length_map, List.length_zip] at h
  rw [← r.length, ← q.length]
  omega
theorem ry_zip {g : Gd} {l k : List D} {p q : Addr} (h1 : LstAt G m H g l p) (h2 : LstAt G m H g k q) : RY G m H ((l.zip k).map fun p => D.tup [p.1, p.2], g) (Itz G.K p q) := fun m' H' S' x rs kk i => by
  obtain ⟨vs, hp, r⟩ := h1 m' H' S' x rs kk
  obtain ⟨us, hq, r2⟩ := h2 m' H' S' x rs kk
  refine ⟨fun d hd => ?_, fun hi => ⟨vs, us, sq_of hp, sq_of hq, zip_end r r2 hi⟩⟩
  obtain ⟨a, b, ha, hb, rfl⟩ := zip_get hd
  obtain ⟨v, hv, _⟩ := r.get ha
  obtain ⟨u, hu, _⟩ := r2.get hb
  refine ⟨⟨vs, us, v, u, sq_of hp, sq_of hq, hv, hu⟩, fun y H2 hy => ?_⟩
  obtain ⟨T, z, w, rfl, hT, rfl, hz, hw⟩ := hy
  exact pair_new rs hT (vget r ha (hz vs (sq_of hp))) (vget r2 hb (hw us (sq_of hq)))
theorem ry_zipT {g : Gd} {l k : List D} {p q : Addr} (h1 : TupAt G m H l p) (h2 : TupAt G m H k q) : RY G m H ((l.zip k).map fun p => D.tup [p.1, p.2], g) (RZ.ItzT G.K p q) := fun m' H' S' x rs kk i => by
  obtain ⟨vs, hp, r⟩ := h1 m' H' x
  obtain ⟨us, hq, r2⟩ := h2 m' H' x
  refine ⟨fun d hd => ?_, fun hi => ⟨vs, us, hp, hq, zip_end r r2 hi⟩⟩
  obtain ⟨a, b, ha, hb, rfl⟩ := zip_get hd
  obtain ⟨v, hv, _⟩ := r.get ha
  obtain ⟨u, hu, _⟩ := r2.get hb
  refine ⟨⟨vs, us, v, u, hp, hq, hv, hu⟩, fun y H2 hy => ?_⟩
  obtain ⟨T, z, w, rfl, hT, rfl, hz, hw⟩ := hy
  exact pair_new rs hT (vget r ha (hz vs hp)) (vget r2 hb (hw us hq))
theorem rev_ix {l : List D} {i : Nat} {d : D} (h : l.reverse[i]? = some d) : i < l.length ∧ l[l.length - 1 - i]? = some d := by
  have hl : i < l.length := by
    have := (List.getElem?_eq_some_iff.mp h).1
    simpa using this
  rw [List.getElem?_reverse hl] at h
  exact ⟨hl, h⟩
theorem ry_rev {g : Gd} {l : List D} {p : Addr} (h : LstAt G m H g l p) : RY G m H (l.reverse, g) (Itv G.K p l.length) := fun m' H' S' x rs k i => by
  obtain ⟨vs, hp, r⟩ := h m' H' S' x rs k
  refine ⟨fun d hd => ?_, fun hi => ?_⟩
  · obtain ⟨hl, hd⟩ := rev_ix hd
    obtain ⟨v, hv, q⟩ := r.get hd
    refine ⟨⟨hl, vs, v, sq_of hp, hv⟩, fun y H2 hy => ?_⟩
    obtain ⟨rfl, hy⟩ := hy
    exact ⟨Ext.refl, rs, vget r hd (hy vs (sq_of hp))⟩
  · simp only [List.length_reverse] at hi
    exact Nat.le_of_eq hi
theorem ry_revT {g : Gd} {l : List D} {p : Addr} (h : TupAt G m H l p) : RY G m H (l.reverse, g) (RT.ItvT G.K p l.length) := fun m' H' S' x rs k i => by
  obtain ⟨vs, hp, r⟩ := h m' H' x
  refine ⟨fun d hd => ?_, fun hi => ?_⟩
  · obtain ⟨hl, hd⟩ := rev_ix hd
    obtain ⟨v, hv, q⟩ := r.get hd
    refine ⟨⟨hl, vs, v, hp, hv⟩, fun y H2 hy => ?_⟩
    obtain ⟨rfl, hy⟩ := hy
    exact ⟨Ext.refl, rs, vget r hd (hy vs hp)⟩
  · simp only [List.length_reverse] at hi
    exact Nat.le_of_eq hi
end
/-! #### a list, a tuple or a text -/
def iAny (K : PySem.W.Frag) (te : TE) : TI := fun σ H R => te σ H fun x H1 => (∃ a, x = .ref a ∧ (∃ xs, SqL K H1 a xs) ∧ R (Itl K a) H1) ∨ (∃ a, x = .ref a ∧ (∃ xs, SqT K H1 a xs) ∧ R (Itt K a) H1) ∨ ∃ z, x = .str z ∧ R (Its z) H1
section
variable {X : Cx} {tg e : Expr} {te : TE}
theorem pi_any (he : PE X e te) : PI X tg e (iAny X.K te) := by
  refine ⟨fun pins st σ H R I h => ?_⟩
  refine thn (he.run pins st σ H _ I h) fun v s1 ⟨x, H1, I1, r1, q1⟩ => ?_
  rcases q1 with ⟨a, rfl, ⟨xs, hq⟩, q⟩ | ⟨a, rfl, ⟨xs, hq⟩, q⟩ | ⟨z, rfl, q⟩
  · obtain rfl : v = Value.ref a := r1
    obtain ⟨its, rv, at_, _⟩ := I1.list hq
    exact wpAny_pyIter_list at_.isList (pi_one (tk := s1.toks) I1 _ (turn_list a _) ⟨_, Heap.get?_push_size _ rfl, rfl, rfl⟩ q)
  · obtain rfl : v = Value.ref a := r1
    obtain ⟨its, rv, at_, _⟩ := I1.tuple hq
    exact wpAny_pyIter_tuple (show s1.heap.IsTuple a its.toArray from at_) (pi_one (tk := s1.toks) I1 _ (turn_tuple a _) ⟨_, Heap.get?_push_size _ rfl, rfl, rfl⟩ q)
  · obtain ⟨t, rfl⟩ := r1
    cases ha : z.cps.all (· < 128)
    · exact wpAny_pyIter_wide ha (pi_one (tk := s1.toks) I1 _ (turn_str _ z t _ (.inr rfl)) ⟨_, Heap.get?_push_size _ rfl, rfl, rfl⟩ q)
    · exact wpAny_pyIter_ascii ha (pi_one (tk := s1.toks) I1 _ (turn_str _ z t _ (.inl rfl)) ⟨_, Heap.get?_push_size _ rfl, rfl, rfl⟩ q)
theorem pi_imp {t t' : TI} (h : PI X tg e t) (i : ∀ σ H R, t' σ H R → t σ H R) : PI X tg e t' := ⟨fun pins s σ H R I q => h.run pins s σ H R I (i σ H R q)⟩
end
abbrev tW (G : Pg) (W : WX) (ev : Fr → Store → Rs (List D × Gd)) : TI := tX G W (RY G) ev
section
variable {G : Pg} {n : Nat} {X : Cx} {s : Sx} {W : WX} {C : Cs} {tg e x y z : Expr} {p pos : Pos} {a b : Ex} {es : List Expr} {l : Exs}
theorem w_seq (c : Ctx G n X s W) (ha : PE X x (tE G W (evE C a))) : PI X tg x (tW G W (evW C (.seq a))) :=
  pi_imp (pi_any ha) fun σ H R ⟨m, ρ, S, re, rs, q⟩ => by
    simp only [evW] at q
    refine tX.go re rs q fun d S1 m1 H1 v1 x1 re1 rs1 r1 q1 => ?_
    rw [c.K]
    unfold seqIt at q1
    split at q1
    · exact .inr (.inr ⟨_, r1.str_inv, q1 m1 H1 _ Ext.refl rs1 ry_str⟩)
    · split at q1
      · rename_i l e
        cases d with
        | tup k =>
          cases e
          obtain ⟨A, rfl, h⟩ := tupAt_of r1
          obtain ⟨vs, hv, _⟩ := h m1 H1 Ext.refl
          exact .inr (.inl ⟨A, rfl, ⟨vs, hv⟩, q1 m1 H1 _ Ext.refl rs1 (ry_tup h)⟩)
        | lst k =>
          obtain ⟨A, rfl, h⟩ := lstAt_of (g := guard (.lst k) S1) (fun _ q => q) rs1 r1 (show lstOf (.lst k) S1 = some l from e)
          obtain ⟨vs, hv, _⟩ := h.now rs1 (by rfl)
          exact .inl ⟨A, rfl, ⟨vs, sq_of hv⟩, q1 m1 H1 _ Ext.refl rs1 (ry_lst h)⟩
        | ref k =>
          obtain ⟨A, vs, rfl, hv, rl⟩ := lstOf_sq rs1 r1 (show lstOf (.ref k) S1 = some l from e)
          obtain ⟨A', eA, h⟩ := lstAt_of (g := guard (.ref k) S1) (fun _ q => q) rs1 r1 (show lstOf (.ref k) S1 = some l from e)
          cases eA
          exact .inl ⟨A, rfl, ⟨vs, sq_of hv⟩, q1 m1 H1 _ Ext.refl rs1 (ry_lst h)⟩
        | _ => cases e
      · exact q1.elim
theorem int62 {j : Int} (h : j ≤ LIM) : j < 2 ^ 62 := by
  unfold LIM at h
  omega
end
end Ev
end
section
set_option maxRecDepth 100000
set_option maxHeartbeats 4000000
/-! Ev, part 14: more of what is walked; targets; comprehensions. -/
namespace Ev
open PySem PySem.Spec PyProof.Rows L2
section
variable {G : Pg} {n : Nat} {X : Cx} {s : Sx} {W : WX} {C : Cs} {tg e x y z : Expr} {p pos : Pos} {a b : Ex} {es : List Expr} {l : Exs}
theorem folded_of {e : Expr} {env : Env} (h : noSet e = true) (x : Value) : foldedSetIterable e env x = pure x := by
  cases e <;> first | rfl | (simp [noSet] at h)
theorem rng_cases {ds : List D} {S : Store} {σ : L2.St} {m : List Addr} {H : Hp} {R : It → Hp → Prop} (q : Fin G W σ (RY G) m H (rngIt ds S) fun _ _ _ H' v => R v H') :
    (∃ j : Int, ds = [.int j] ∧ j ≤ LIM ∧ -(LIM : Int) ≤ j ∧ Fin G W σ (RY G) m H (.ok (upTo 0 j.toNat, []) S) fun _ _ _ H' v => R v H') ∨
      (∃ i j : Int, ds = [.int i, .int j] ∧ i.natAbs < 2 ^ 61 ∧ j.natAbs < 2 ^ 61 ∧ Fin G W σ (RY G) m H (.ok (upTo i (j - i).toNat, []) S) fun _ _ _ H' v => R v H') ∨
      ∃ i j : Int, ds = [.int i, .int j, .int (-1)] ∧ i.natAbs < 2 ^ 61 ∧ j.natAbs < 2 ^ 61 ∧ Fin G W σ (RY G) m H (.ok (dnTo i (i - j).toNat, []) S) fun _ _ _ H' v => R v H' := by
  unfold rngIt at q
  split at q
  · split at q
    · rename_i h
      exact .inl ⟨_, rfl, h.1, h.2, q⟩
    · exact q.elim
  · split at q
    · rename_i h
      exact .inr (.inl ⟨_, _, rfl, h.2.1, h.2.2, q⟩)
    · exact q.elim
  · split at q
    · rename_i h
      obtain ⟨h1, h2, h3, h4⟩ := h
      subst h1
      exact .inr (.inr ⟨_, _, rfl, h3, h4, q⟩)
    · exact q.elim
  · exact q.elim
theorem three_inv {d e f : D} {m : List Addr} {H : Hp} {vs : List V} (r : RepL G m H [d, e, f] vs) : ∃ v u w, vs = [v, u, w] ∧ Rep G m H d v ∧ Rep G m H e u ∧ Rep G m H f w := by
  simp only [RepL] at r
  obtain ⟨v, us, rfl, r1, u, ws, rfl, r2, w, zs, rfl, r3, rfl⟩ := r
  exact ⟨v, u, w, rfl, r1, r2, r3⟩
theorem w_rng (hd : Hd G) (c : Ctx G n X s W) (hg : gloB s "range" = true) (hl : chkL G.M l s es = true) (hz : (es.length = 1 ∨ es.length = 2) ∨ es.length = 3) (ha : PA X es (tL G W (evL C l))) : PI X tg (.Call (.Name "range" p) es [] pos) (tW G W (evW C (.rng l))) := by
  obtain ⟨g1, g2, g3, g4, g5⟩ := c.glo hg
  have hm : X.mg "range" = none := c.blt hd (by decide)
  have hst := chkL_star _ _ _ hl
  have main : ∀ {σ H R}, tW G W (evW C (.rng l)) σ H R → tL G W (evL C l) σ H fun vs H1 => vs.length = es.length ∧ ((∃ j : Int, vs = [.int j] ∧ -(2 ^ 62) ≤ j ∧ j < 2 ^ 62 ∧ R (Itr 0 j.toNat) H1) ∨ (∃ i j : Int, vs = [.int i, .int j] ∧ (-(2 ^ 62) ≤ i ∧ i < 2 ^ 62 ∧ -(2 ^ 62) ≤ j ∧ j < 2 ^ 62) ∧ R (Itr i (j - i).toNat) H1) ∨ ∃ i j : Int, vs = [.int i, .int j, .int (-1)] ∧ (-(2 ^ 62) ≤ i ∧ i < 2 ^ 62 ∧ -(2 ^ 62) ≤ j ∧ j < 2 ^ 62) ∧ R (Itc i (-1) (i - j).toNat) H1) := fun {σ H R} ⟨m, ρ, S, re, rs, q⟩ => by
    simp only [evW] at q
    refine len_of hl (tX.go re rs q fun ds S1 m1 H1 vs x1 re1 rs1 r1 q1 => ?_)
    rcases rng_cases q1 with ⟨j, rfl, h1, h2, q2⟩ | ⟨i, j, rfl, h1, h2, q2⟩ | ⟨i, j, rfl, h1, h2, q2⟩
    · obtain ⟨v, rfl, rv⟩ := one_inv r1
      unfold LIM at h1 h2
      exact .inl ⟨j, by rw [rv.int_inv], by omega, by omega, q2 m1 H1 _ Ext.refl rs1 ry_rng⟩
    · obtain ⟨v, u, rfl, rv, ru⟩ := two_inv r1
      exact .inr (.inl ⟨i, j, by rw [rv.int_inv, ru.int_inv], by omega, q2 m1 H1 _ Ext.refl rs1 ry_rng⟩)
    · obtain ⟨v, u, w, rfl, rv, ru, rw_⟩ := three_inv r1
      exact .inr (.inr ⟨i, j, by rw [rv.int_inv, ru.int_inv, rw_.int_inv], by omega, q2 m1 H1 _ Ext.refl rs1 ry_rngD⟩)
  rcases hz with (hz | hz) | hz
  · obtain ⟨x, rfl⟩ := List.length_eq_one_iff.mp hz
    simp only [List.all_cons, Bool.and_eq_true] at hst
    refine pi_imp (pi_range1 g1 hm ha (star_of hst.1)) fun σ H R q => ?_
    obtain ⟨m, ρ, S, re, rs, q1⟩ := main q
    refine ⟨m, ρ, S, re, rs, q1.imp ?_⟩
    rintro d0 S0 m0 H0 vs _ _ _ ⟨hlen, h | ⟨i, j, rfl, _⟩ | ⟨i, j, rfl, _⟩⟩
    · exact h
    · cases hlen
    · cases hlen
  · obtain ⟨x, y, rfl⟩ : ∃ x y, es = [x, y] := by
      match es, hz with
      | [x, y], _ => exact ⟨x, y, rfl⟩
    simp only [List.all_cons, Bool.and_eq_true] at hst
    refine pi_imp (pi_range2 g1 hm ha (by rw [star_of hst.1, star_of hst.2.1]; rfl) (star_of hst.2.1)) fun σ H R q => ?_
    obtain ⟨m, ρ, S, re, rs, q1⟩ := main q
    refine ⟨m, ρ, S, re, rs, q1.imp ?_⟩
    rintro d0 S0 m0 H0 vs _ _ _ ⟨hlen, ⟨j, rfl, _⟩ | h | ⟨i, j, rfl, _⟩⟩
    · cases hlen
    · exact h
    · cases hlen
  · obtain ⟨x, y, z, rfl⟩ : ∃ x y z, es = [x, y, z] := by
      match es, hz with
      | [x, y, z], _ => exact ⟨x, y, z, rfl⟩
    simp only [List.all_cons, Bool.and_eq_true] at hst
    refine pi_imp (pi_range3 g1 hm ha (star_of hst.1) (any_star (by simp [hst.2.1, hst.2.2.1]))) fun σ H R q => ?_
    obtain ⟨m, ρ, S, re, rs, q1⟩ := main q
    refine ⟨m, ρ, S, re, rs, q1.imp ?_⟩
    rintro d0 S0 m0 H0 vs _ _ _ ⟨hlen, ⟨j, rfl, _⟩ | ⟨i, j, rfl, _⟩ | ⟨i, j, rfl, hb, h⟩⟩
    · cases hlen
    · cases hlen
    · exact ⟨i, j, -1, _, rfl, RgC.neg hb.1 hb.2.1 hb.2.2.1 hb.2.2.2, h⟩
theorem guard_nil {S : Store} : gOk [] S = true := by
  unfold gOk
  simp
theorem w_enm (hd : Hd G) (c : Ctx G n X s W) {elts : List Expr} {kk : Nat} {tpos : Pos} (hg : gloB s "enumerate" = true) (ha : PE X x (tE G W (evE C a))) (hx : noStar x = true) : PI X (.Tuple elts kk tpos) (.Call (.Name "enumerate" p) [x] [] pos) (tW G W (evW C (.enm a))) := by
  obtain ⟨g1, g2, g3, g4, g5⟩ := c.glo hg
  have hm : X.mg "enumerate" = none := c.blt hd (by decide)
  refine pi_imp (pi_enumA g1 hm (pa_cons ha pa_nil (star_of hx)) (star_of hx)) fun σ H R ⟨m, ρ, S, re, rs, q⟩ => ?_
  simp only [evW] at q
  refine tX.go re rs q fun d S1 m1 H1 v1 x1 re1 rs1 r1 q1 => ?_
  unfold enmIt at q1
  split at q1
  · rename_i l e
    have viaL : lstOf d S1 = some l → ∃ a_1, [v1] = [V.ref a_1] ∧ ((∃ xs, SqL X.K H1 a_1 xs ∧ R (Ite X.K a_1) H1) ∨ ∃ xs, SqT X.K H1 a_1 xs ∧ R (Itet X.K a_1) H1) := fun e => by
      obtain ⟨A, rfl, h⟩ := lstAt_of (g := guard d S1) (fun _ q => q) rs1 r1 e
      obtain ⟨A', vs, eA, hv, rl⟩ := lstOf_sq rs1 r1 e
      cases eA
      exact ⟨A, rfl, .inl ⟨vs, by rw [c.K]; exact sq_of hv, by rw [c.K]; exact q1 m1 H1 _ Ext.refl rs1 (ry_enm h)⟩⟩
    cases d with
    | tup k =>
      cases e
      obtain ⟨A, rfl, h⟩ := tupAt_of r1
      obtain ⟨vs, hv, rl⟩ := h m1 H1 Ext.refl
      exact ⟨A, rfl, .inr ⟨vs, by rw [c.K]; exact hv, by rw [c.K]; exact q1 m1 H1 _ Ext.refl rs1 (ry_enmT h)⟩⟩
    | lst k => exact viaL e
    | ref k => exact viaL e
    | _ => cases e
  · exact q1.elim
theorem w_zip (hd : Hd G) (c : Ctx G n X s W) {elts : List Expr} {kk : Nat} {tpos : Pos} (hg : gloB s "zip" = true) (ha : PE X x (tE G W (evE C a))) (hx : noStar x = true) (hb : PE X y (tE G W (evE C b))) (hy : noStar y = true) : PI X (.Tuple elts kk tpos) (.Call (.Name "zip" p) [x, y] [] pos) (tW G W (evW C (.zip a b))) := by
  obtain ⟨g1, g2, g3, g4, g5⟩ := c.glo hg
  have hm : X.mg "zip" = none := c.blt hd (by decide)
  refine pi_imp (RZ.pi_zipA g1 hm (pa_cons ha (pa_cons hb pa_nil (star_of hy)) (star_of hx)) (star_of hx) (any_star (by simp [hy]))) fun σ H R ⟨m, ρ, S, re, rs, q⟩ => ?_
  simp only [evW] at q
  refine tX.go re rs q fun d S1 m1 H1 v1 x1 re1 rs1 r1 q1 => ?_
  refine tX.go re1 rs1 q1 fun d2 S2 m2 H2 v2 x2 re2 rs2 r2 q2 => ?_
  have r1' := Rep.mono x2 _ _ r1
  rw [c.K]
  unfold zipIt at q2
  split at q2
  · obtain ⟨A, rfl, h1⟩ := tupAt_of r1'
    obtain ⟨B, rfl, h2⟩ := tupAt_of r2
    obtain ⟨vs, hv, _⟩ := h1 m2 H2 Ext.refl
    obtain ⟨us, hu, _⟩ := h2 m2 H2 Ext.refl
    exact ⟨A, B, vs, us, rfl, .inr ⟨hv, hu, q2 m2 H2 _ Ext.refl rs2 (ry_zipT h1 h2)⟩⟩
  · split at q2
    · rename_i l r e1 e2
      obtain ⟨A, rfl, h1⟩ := lstAt_of (g := guard d S2 ++ guard d2 S2) (fun _ q => (gOk_app.mp q).1) rs2 r1' e1
      obtain ⟨B, rfl, h2⟩ := lstAt_of (g := guard d S2 ++ guard d2 S2) (fun _ q => (gOk_app.mp q).2) rs2 r2 e2
      obtain ⟨A', vs, eA, hv, _⟩ := lstOf_sq rs2 r1' e1
      obtain ⟨B', us, eB, hu, _⟩ := lstOf_sq rs2 r2 e2
      cases eA; cases eB
      exact ⟨A, B, vs, us, rfl, .inl ⟨sq_of hv, sq_of hu, q2 m2 H2 _ Ext.refl rs2 (ry_zip h1 h2)⟩⟩
    · exact q2.elim
theorem w_rev (hd : Hd G) (c : Ctx G n X s W) (hg : gloB s "reversed" = true) (ha : PE X x (tE G W (evE C a))) (hx : noStar x = true) : PI X tg (.Call (.Name "reversed" p) [x] [] pos) (tW G W (evW C (.rev a))) := by
  obtain ⟨g1, g2, g3, g4, g5⟩ := c.glo hg
  have hm : X.mg "reversed" = none := c.blt hd (by decide)
  refine pi_imp (RT.pi_revA g1 hm ha (star_of hx)) fun σ H R ⟨m, ρ, S, re, rs, q⟩ => ?_
  simp only [evW] at q
  refine tX.go re rs q fun d S1 m1 H1 v1 x1 re1 rs1 r1 q1 => ?_
  rw [c.K]
  unfold revIt at q1
  split at q1
  · rename_i l e
    have viaL : ∀ {d : D}, Rep G m1 H1 d v1 → lstOf d S1 = some l → (Fin G W σ (RY G) m1 H1 (.ok (l.reverse, guard d S1) S1) fun _ _ _ H' v => R v H') → ∃ (a : Addr) (xs : List V), v1 = .ref a ∧ ((SqL G.K H1 a xs ∧ R (Itv G.K a xs.length) H1) ∨ (SqT G.K H1 a xs ∧ R (RT.ItvT G.K a xs.length) H1)) := fun {d} r1 e q1 => by
      obtain ⟨A, rfl, h⟩ := lstAt_of (g := guard d S1) (fun _ q => q) rs1 r1 e
      obtain ⟨A', vs, eA, hv, rl⟩ := lstOf_sq rs1 r1 e
      cases eA
      exact ⟨A, vs, rfl, .inl ⟨sq_of hv, by rw [← rl.length]; exact q1 m1 H1 _ Ext.refl rs1 (ry_rev h)⟩⟩
    cases d with
    | tup k =>
      cases e
      obtain ⟨A, rfl, h⟩ := tupAt_of r1
      obtain ⟨vs, hv, rl⟩ := h m1 H1 Ext.refl
      exact ⟨A, vs, rfl, .inr ⟨hv, by rw [← rl.length]; exact q1 m1 H1 _ Ext.refl rs1 (ry_revT h)⟩⟩
    | lst k => exact viaL r1 e q1
    | ref k => exact viaL r1 e q1
    | _ => cases e
  · exact q1.elim
/-! #### targets -/
def idxs : Tg → List Nat
  | .nm i => [i]
  | .tp is => is
/-- what a target leaves as it was -/
def Same (is : List Nat) (σ σ' : L2.St) : Prop := σ'.length = σ.length ∧ ∀ j, j ∉ is → σ'[j]? = σ[j]?
def gT (G : Pg) (tg : Tg) : TG := fun v σ H Q => ∃ m ρ S d ρ', RE G m H ρ σ ∧ RS G m H S ∧ Rep G m H d v ∧ setT tg d ρ S = some ρ' ∧ ∀ σ', RE G m H ρ' σ' → Same (idxs tg) σ σ' → Q σ' H
def gAll : List Nat → TGs
  | [] => gNil
  | i :: is => gCons (gName i) (gAll is)
theorem pgs_all (c : Ctx G n X s W) : ∀ {is : List Nat} {es : List Expr}, tgsB s is es = true → PGs X es (gAll is) ∧ (assignEach es X.env).length = es.length ∧ (assignEach es X.env).findIdx? (·.1) = none ∧ es.length = is.length
  | [], [], _ => ⟨pgs_nil, rfl, rfl, rfl⟩
  | i :: is, e :: es, h => by
    simp only [tgsB, Bool.and_eq_true] at h
    obtain ⟨h1, h2⟩ := h
    obtain ⟨q1, q2, q3, q4⟩ := pgs_all c h2
    split at h1
    · obtain ⟨p1, p2, p3⟩ := c.put h1
      refine ⟨pgs_cons (pg_name c.nN p1 p2 p3) q1 rfl, congrArg Nat.succ q2, ?_, congrArg Nat.succ q4⟩
      show (List.findIdx? (·.1) ((false, _) :: assignEach es X.env)) = none
      rw [List.findIdx?_cons]
      simp only [Bool.false_eq_true, if_false, q3, Option.map_none]
    · cases h1
  | [], _ :: _, h => by simp [tgsB] at h
  | _ :: _, [], h => by simp [tgsB] at h
theorem all_set {m : List Addr} {H : Hp} {Q : L2.St → Hp → Prop} : ∀ {is : List Nat} {ds : List D} {vs : List V} {ρ ρ' : Fr} {σ : L2.St}, RE G m H ρ σ → RepL G m H ds vs → setAll is ds ρ = some ρ' → (∀ σ', RE G m H ρ' σ' → Same is σ σ' → Q σ' H) → gAll is vs σ H Q
  | [], [], vs, ρ, ρ', σ, re, r, e, q => by
    simp only [setAll] at e
    cases e
    simp only [RepL] at r
    exact ⟨r, q σ re ⟨rfl, fun _ _ => rfl⟩⟩
  | i :: is, d :: ds, vs, ρ, ρ', σ, re, r, e, q => by
    simp only [setAll] at e
    simp only [RepL] at r
    obtain ⟨v, us, rfl, r1, r2⟩ := r
    refine ⟨v, us, rfl, ?_⟩
    refine all_set (re.set r1) r2 e fun σ' re' sm => q σ' re' ⟨by rw [sm.1]; simp, fun j hj => ?_⟩
    rw [sm.2 j (fun z => hj (List.mem_cons_of_mem _ z)), List.getElem?_set_ne]
    exact fun z => hj (by rw [z]; exact List.mem_cons_self ..)
  | [], _ :: _, _, _, _, _, _, _, e, _ => by simp [setAll] at e
  | _ :: _, [], _, _, _, _, _, _, e, _ => by simp [setAll] at e
theorem pg_imp {t t' : TG} (h : PG X tg t) (i : ∀ v σ H Q, t' v σ H Q → t v σ H Q) : PG X tg t' := ⟨fun pins s σ H v u Q I r q => h.run pins s σ H v u Q I r (i v σ H Q q)⟩
theorem r_tg (c : Ctx G n X s W) {t : Tg} (h : tgB s t tg = true) : PG X tg (gT G t) := by
  unfold tgB at h
  split at h
  · split at h
    · obtain ⟨p1, p2, p3⟩ := c.put h
      refine pg_imp (pg_name c.nN p1 p2 p3) fun v σ H Q ⟨m, ρ, S, d, ρ', re, rs, r, e, q⟩ => ?_
      simp only [setT] at e
      cases e
      refine q _ (re.set r) ⟨by simp, fun j hj => ?_⟩
      rw [List.getElem?_set_ne]
      exact fun z => hj (by rw [z]; exact List.mem_cons_self ..)
    · cases h
  · split at h
    · rename_i elts _ _
      obtain ⟨h1, h2, h3, h4⟩ := pgs_all c h
      refine ⟨fun pins st σ H v u Q I rv ⟨m, ρ, S, d, ρ', re, rs, r, e, q⟩ => ?_⟩
      simp only [setT] at e
      split at e
      · rename_i k ek
        obtain ⟨A, vs, rfl, hp, rl⟩ := seqOf_sq rs r ek
        have fin := all_set re rl e q
        have hlen : vs.length = (assignEach elts X.env).length := by
          rw [h2, h4, ← rl.length]
          have : ∀ {is : List Nat} {ds : List D} {ρ ρ' : Fr}, setAll is ds ρ = some ρ' → ds.length = is.length := fun {is} => by
            induction is with
            | nil => intro ds ρ ρ' e; cases ds with
              | nil => rfl
              | cons _ _ => simp [setAll] at e
            | cons i is ih => intro ds ρ ρ' e; cases ds with
              | nil => simp [setAll] at e
              | cons _ _ => simp only [setAll] at e; simp only [List.length_cons, ih e]
          exact this e
        rcases hp with hp | hp
        · exact (pg_lst c.calm h1 rfl h3).run pins st σ H _ u Q I rv ⟨A, vs, rfl, sq_of hp, hlen, fin⟩
        · exact (pg_tup c.calm h1 rfl h3).run pins st σ H _ u Q I rv ⟨A, vs, rfl, by rw [c.K]; exact hp, hlen, fin⟩
      · cases e
    · cases h
/-! #### comprehensions -/
theorem wipe_get : ∀ (is : List Nat) (σ : L2.St) (j : Nat), (L2.wipe σ is)[j]? = if j ∈ is ∧ j < σ.length then some none else σ[j]?
  | [], σ, j => by simp [L2.wipe]
  | i :: is, σ, j => by
    simp only [L2.wipe]
    by_cases hij : i = j
    · subst hij
      rw [List.getElem?_set]
      simp only [if_true, L2.wipe_length, List.mem_cons, true_or, true_and]
      split
      · rfl
      · rename_i h
        rw [List.getElem?_eq_none (by omega)]
    · rw [List.getElem?_set_ne hij, wipe_get is σ j]
      simp only [List.mem_cons, show (j = i) = False from eq_false (Ne.symm hij), false_or]
theorem wipe_same {is own : List Nat} {σ σ' : L2.St} (h : Same is (L2.wipe σ own) σ') (hs : ∀ i ∈ is, i ∈ own) : L2.wipe σ' own = L2.wipe σ own := by
  apply List.ext_getElem?
  intro j
  have hl : σ'.length = σ.length := by rw [h.1, L2.wipe_length]
  rw [wipe_get, wipe_get, hl]
  by_cases hj : j ∈ own ∧ j < σ.length
  · rw [if_pos hj, if_pos hj]
  · rw [if_neg hj, if_neg hj]
    by_cases hj2 : j ∈ own
    · have : ¬ j < σ.length := fun z => hj ⟨hj2, z⟩
      rw [List.getElem?_eq_none (by omega), List.getElem?_eq_none (by omega)]
    · rw [h.2 j (fun z => hj2 (hs j z)), wipe_get, if_neg (fun z => hj2 z.1)]
/-- no exception -/
def noW : WX := fun _ _ _ _ => False
theorem takesN : Takes X noW := fun _ _ ⟨_, _, _, _, _, _, _, _, _, _, _, _, _, _, _, _, z⟩ => z.elim
theorem fin_nox {σ : L2.St} {m : List Addr} {H : Hp} {α γ δ : Type} {R' : List Addr → Hp → γ → δ → Prop} {r : Rs α} {k : α → Store → Rs γ} {t : Tag k} {K : γ → Store → List Addr → Hp → δ → Prop} (h : Fin G W σ R' m H (r.nox.th k t) K) : ∃ a S', r = .ok a S' ∧ Fin G W σ R' m H (k a S') K := by
  cases r with
  | ok a S' => exact ⟨a, S', rfl, h⟩
  | ex _ _ _ => exact h.elim
  | bad => exact h.elim
/-- a result that is reached: its reading, whatever is asked of exceptions -/
theorem fin_ok {σ σ' : L2.St} {W' : WX} {m : List Addr} {H : Hp} {α β γ : Type} {R : List Addr → Hp → α → β → Prop} {r : Rs α} {k : α → Store → Rs γ} {t : Tag k} {c : γ} {S' : Store} {K : α → Store → List Addr → Hp → β → Prop} (h : r.th k t = .ok c S')
    (q : ∀ a S1 m' H' v, k a S1 = .ok c S' → r = .ok a S1 → Ext m H m' H' → RS G m' H' S1 → R m' H' a v → K a S1 m' H' v) : Fin G W' σ' R m H r K := by
  cases r with
  | ok a S1 => exact fun m' H' v x rs' r => q a S1 m' H' v h rfl x rs' r
  | ex _ _ _ => cases h
  | bad => cases h
theorem fin_th {α γ : Type} {r : Rs α} {k : α → Store → Rs γ} {t : Tag k} {c : γ} {S' : Store} (h : r.th k t = .ok c S') : ∃ a S1, r = .ok a S1 ∧ k a S1 = .ok c S' := by
  cases r with
  | ok a S1 => exact ⟨a, S1, rfl, h⟩
  | ex _ _ _ => cases h
  | bad => cases h
/-- a reading that ends well, exceptions or no -/
theorem tX.okk {α β : Type} {R : List Addr → Hp → α → β → Prop} {ev : Fr → Store → Rs α} {σ : L2.St} {m : List Addr} {H : Hp} {ρ : Fr} {S S' : Store} {a : α} {Q : β → Hp → Prop} (re : RE G m H ρ σ) (rs : RS G m H S) (e : ev ρ S = .ok a S')
    (q : ∀ m' H' v, Ext m H m' H' → RE G m' H' ρ σ → RS G m' H' S' → R m' H' a v → Q v H') : tX G W R ev σ H Q :=
  ⟨m, ρ, S, re, rs, by rw [e]; exact fun m' H' v x rs' r => q m' H' v x (re.mono x) rs' r⟩
theorem lc_run {t : Tg} {cnd : Exo} {e0 : Ex} {ρ : Fr} {g : Gd} {k : Nat} {D : Addr} {J : It} {ds0 : List Ev.D} {m0 : List Addr} {H0 : Hp} {own : List Nat} {σ : L2.St} {Sf : Store} {Q : Hp → Prop} (ry : RY G m0 H0 (ds0, g) J) (hs : ∀ i ∈ idxs t, i ∈ own) (re0 : RE G m0 H0 ρ (L2.wipe σ own))
    (fin : ∀ m H, Ext m0 H0 m H → RS G m H Sf → m[k]? = some D → Q H) :
    ∃ W : Nat → Nat → Hp → Prop, (∀ m H S, Ext m0 H0 m H → RS G m H S → m[k]? = some D → lcL t (fun ρ S => evC C cnd ρ S) (fun ρ S => evE C e0 ρ S) ρ g k ds0 S = .ok () Sf → W 0 ds0.length H) ∧ ∀ i m H, W i m H →
      (J.stop i H ∧ Q H) ∨ (J.go i H ∧ ∃ Nx : Hp → Prop, (∀ H', Nx H' → ∃ m', m' < m ∧ W (i + 1) m' H') ∧ ∀ x H', J.yld i H x H' → gT G t x (L2.wipe σ own) H' fun σ2 H2 => L2.wipe σ2 own = L2.wipe σ own ∧ tT G noW (evC C cnd) σ2 H2 fun b H3 =>
        if b = true then tE G noW (evE C e0) σ2 H3 fun y H4 => ∃ acc, H4 D = some (.lst acc) ∧ acc.length < sizeLine ∧ Nx (upd H4 D (.lst (acc ++ [y]))) else Nx H3) := by
  refine ⟨fun i j H => ∃ m S, j = ds0.length - i ∧ i ≤ ds0.length ∧ Ext m0 H0 m H ∧ RS G m H S ∧ m[k]? = some D ∧ lcL t (fun ρ S => evC C cnd ρ S) (fun ρ S => evE C e0 ρ S) ρ g k (ds0.drop i) S = .ok () Sf, fun m H S x rs hm e => ⟨m, S, rfl, Nat.zero_le _, x, rs, hm, e⟩, ?_⟩
  rintro i j H ⟨m, S, rfl, hi, x, rs, hm, e⟩
  by_cases hlt : i < ds0.length
  · have hd : ds0.drop i = ds0[i] :: ds0.drop (i + 1) := List.drop_eq_getElem_cons hlt
    rw [hd] at e
    simp only [lcL] at e
    split at e
    · rename_i hg
      obtain ⟨go, yl⟩ := (ry m H S x rs hg i).1 ds0[i] (List.getElem?_eq_getElem hlt)
      split at e
      · rename_i ρ1 et
        refine .inr ⟨go, fun H' => ∃ m' S', Ext m0 H0 m' H' ∧ RS G m' H' S' ∧ m'[k]? = some D ∧ lcL t (fun ρ S => evC C cnd ρ S) (fun ρ S => evE C e0 ρ S) ρ g k (ds0.drop (i + 1)) S' = .ok () Sf, ?_, ?_⟩
        · rintro H' ⟨m', S', x', rs', hm', e'⟩
          exact ⟨ds0.length - (i + 1), by omega, m', S', rfl, hlt, x', rs', hm', e'⟩
        · intro v H1 hy
          obtain ⟨x1, rs1, r1⟩ := yl v H1 hy
          refine ⟨m, ρ, S, ds0[i], ρ1, (re0.mono x).mono x1, rs1, r1, et, fun σ2 re2 sm => ⟨wipe_same sm hs, ?_⟩⟩
          obtain ⟨b, S2, eb, e3⟩ := fin_th e
          refine tX.okk re2 rs1 eb fun m2 H2 b' x2 re3 rs2 rb => ?_
          have eb' : b = b' := rb
          subst eb'
          cases b with
          | false => exact ⟨m2, S2, (x.trans x1).trans x2, rs2, pre_get x2.pre hm, e3⟩
          | true =>
            simp only [if_true] at e3 ⊢
            obtain ⟨d, S3, ed, e4⟩ := fin_th e3
            refine tX.okk re3 rs2 ed fun m3 H3 y x3 re4 rs3 ry3 => ?_
            have hm3 := pre_get (x2.trans x3).pre hm
            split at e4
            · rename_i acc ea
              split at e4
              · rename_i hz
                obtain ⟨p, hp, vs, hv, rl⟩ := rs3.cel _ _ ea
                rw [hm3] at hp
                cases hp
                refine ⟨vs, hv, by rw [← rl.length, ← lim]; exact hz, ?_⟩
                have xw : Ext m3 H3 m3 (upd H3 D (.lst (vs ++ [y]))) := Ext.write (List.mem_of_getElem? hm3) (NF.of hv fun _ _ z => nomatch z)
                exact ⟨m3, _, ((x.trans x1).trans (x2.trans x3)).trans xw, rs3.write (c := .lst (acc ++ [d])) (NF.of hv fun _ _ z => nomatch z) hm3 ⟨_, upd_same, RepL.mono xw _ _ (rl.append (RepL.cons ry3 RepL.nil))⟩, hm3, e4⟩
              · cases e4
            · cases e4
      · cases e
    · cases e
  · have e1 : i = ds0.length := by omega
    have hd : ds0.drop i = [] := List.drop_eq_nil_of_le (by omega)
    rw [hd] at e
    simp only [lcL] at e
    split at e
    · rename_i hg
      cases e
      exact .inl ⟨(ry m H _ x rs hg i).2 e1.symm, fin m H x rs hm⟩
    · cases e
theorem blk_ctx (c : Ctx G n X s W) {sc : Scope} (st : Shared) (H : Hp) (Ca : Addr) (cl : List (Str × Addr)) (fp : List Addr) : Ctx G n (X.blk st H sc (compEnvC sc cl Ca X.env) fp) ⟨s.N, L2.relS sc s.sc, some sc⟩ noW where
  prog := c.prog
  w := c.w
  K := c.K
  mg := c.mg
  base := c.base
  N := c.N
  nd := c.nd
  sc := by
    show L2.relS sc X.env.scope = _
    rw [c.sc]
  fn := fun x hx hbk => by
    have := hbk sc rfl
    show (sc.names.lookup x == some .cell) = true
    rw [this]; rfl
  calm := c.calm
  tk := takesN
  room := ⟨c.room.hd, c.room.dp, c.room.un⟩
  lv := c.lv
  lv1 := c.lv1
theorem own_map {N : List Str} (own : List Nat) : (own.map fun j => (N.getD j "", j)).map (fun x => x.2) = own := by
  rw [List.map_map]
  show own.map id = own
  exact List.map_id _
theorem lc_read {k : Bool} {own : List Nat} {t : Tg} {it : Iter} {cnd : Exo} {e0 : Ex} (hs : ∀ i ∈ idxs t, i ∈ own) (σ : L2.St) (H : Hp) (Q : VK) (h : tE G W (evE C (.lc k own t it cnd e0)) σ H Q) : tLc (tW G W (evW C it)) (gT G t) (tT G noW (evC C cnd)) (tE G noW (evE C e0)) own σ H Q := by
  obtain ⟨m, ρ, S, re, rs, q⟩ := h
  simp only [evE] at q
  refine tX.go re rs q fun p S1 m1 H1 J x1 re1 rs1 ry q1 => ?_
  obtain ⟨_, S2, e2, q2⟩ := fin_nox q1
  intro D hD
  have xc : Ext m1 H1 (m1 ++ [D]) (upd H1 D (.lst [])) := Ext.cell hD
  have rsc : RS G (m1 ++ [D]) (upd H1 D (.lst [])) (S1 ++ [.lst []]) := rs1.cell hD ⟨[], upd_same, RepL.nil⟩
  have hk : (m1 ++ [D])[S1.length]? = some D := by rw [← rs1.len]; simp
  have hDm : D ∉ m1 := rs1.fresh hD
  obtain ⟨Wd, w0, wn⟩ := lc_run (C := C) (cnd := cnd) (e0 := e0) (k := S1.length) (D := D) (Sf := S2) (Q := Q (.ref D)) (g := p.2) (ds0 := p.1) (t := t) (own := own) (σ := σ) (ρ := Ev.wipe ρ own) ry hs (re1.wipe own) fun m' H' x' rs' hm' => by
    unfold lcE at q2
    split at q2
    · rename_i l el
      obtain ⟨p', hp', vs, hv, rl⟩ := rs'.cel _ _ el
      rw [hm'] at hp'
      cases hp'
      split at q2
      · exact q2 m' H' _ x' rs' (rep_ref hm')
      · split at q2
        · rename_i hcut
          rw [Bool.and_eq_true] at hcut
          obtain ⟨rs4, x4⟩ := rs'.drop x' rs1 hcut.1
          exact q2 m1 H' _ x4 rs4 (rep_lst ⟨hDm, .inl hv⟩ (RepL.less x'.pre _ _ (by rw [rs1.len]; exact hcut.2) rl))
        · exact q2 m' H' _ x' rs' (rep_ref hm')
    · exact q2.elim
  exact ⟨Wd, ⟨_, w0 _ _ _ xc rsc hk e2⟩, wn⟩
theorem r_lc (c : Ctx G n X s W) {k : Bool} {own : List Nat} {t : Tg} {it : Iter} {cnd : Exo} {e0 : Ex} {elt tgE iter : Expr} {ifs : List Expr} {sc : Scope} (hi : PI X tgE iter (tW G W (evW C it))) (hns : noSet iter = true)
    (hb : L2.blkC s.N s.sc sc (own.map fun j => (s.N.getD j "", j)) = true) (hs : ∀ i ∈ idxs t, i ∈ own)
    (ht : ∀ X', Ctx G n X' ⟨s.N, L2.relS sc s.sc, some sc⟩ noW → PG X' tgE (gT G t) ∧ PTs X' ifs (tT G noW (evC C cnd)) ∧ PE X' elt (tE G noW (evE C e0))) :
    PE X (.ListComp elt [⟨tgE, iter, ifs, 0⟩] sc pos) (tE G W (evE C (.lc k own t it cnd e0))) := by
  have q0 := pe_lc (pos := pos) c.calm c.nN hi (blkOk_by (by rw [c.N, c.sc]; exact hb)) (fun st H Ca cl fp => (ht _ (blk_ctx c st H Ca cl fp)).1) (fun st H Ca cl fp => (ht _ (blk_ctx c st H Ca cl fp)).2.1) (fun st H Ca cl fp => (ht _ (blk_ctx c st H Ca cl fp)).2.2) (folded_of hns)
  rw [own_map] at q0
  exact pe_imp q0 (lc_read hs)
theorem idxs_eq (t : Tg) : tgIx t = idxs t := by cases t <;> rfl
theorem lc2_run {t t2 : Tg} {cnd cnd2 : Exo} {it2 : Iter} {e0 : Ex} {ρ : Fr} {g : Gd} {k : Nat} {D : Addr} {J : It} {ds0 : List Ev.D} {m0 : List Addr} {H0 : Hp} {own : List Nat} {σ : L2.St} {Sf : Store} {Q : Hp → Prop} (ry : RY G m0 H0 (ds0, g) J) (hs : ∀ i ∈ idxs t, i ∈ own) (re0 : RE G m0 H0 ρ (L2.wipe σ own))
    (fin : ∀ m H, Ext m0 H0 m H → RS G m H Sf → m[k]? = some D → Q H) :
    ∃ W : Nat → Nat → Hp → Prop, (∀ m H S, Ext m0 H0 m H → RS G m H S → m[k]? = some D → lcL2 t (fun ρ S => evC C cnd ρ S) (fun ρ S => evW C it2 ρ S) t2 (fun ρ S => evC C cnd2 ρ S) (fun ρ S => evE C e0 ρ S) ρ g k ds0 S = .ok () Sf → W 0 ds0.length H) ∧ ∀ i m H, W i m H →
      (J.stop i H ∧ Q H) ∨ (J.go i H ∧ ∃ Nx : Hp → Prop, (∀ H', Nx H' → ∃ m', m' < m ∧ W (i + 1) m' H') ∧ ∀ x H', J.yld i H x H' → gT G t x (L2.wipe σ own) H' fun σ2 H2 => L2.wipe σ2 own = L2.wipe σ own ∧ tT G noW (evC C cnd) σ2 H2 fun b H3 =>
        if b = true then tW G noW (evW C it2) σ2 H3 fun J1 H4 => ∃ W1 : Nat → Nat → Hp → Prop, (∃ m, W1 0 m H4) ∧ ∀ j k H, W1 j k H →
          (J1.stop j H ∧ Nx H) ∨ (J1.go j H ∧ ∃ Nx1 : Hp → Prop, (∀ H', Nx1 H' → ∃ k', k' < k ∧ W1 (j + 1) k' H') ∧ ∀ x H', J1.yld j H x H' → gT G t2 x (L2.wipe σ2 (idxs t2)) H' fun σ3 H5 => L2.wipe σ3 (idxs t2) = L2.wipe σ2 (idxs t2) ∧ tT G noW (evC C cnd2) σ3 H5 fun b H6 =>
            if b = true then tE G noW (evE C e0) σ3 H6 fun y H7 => ∃ acc, H7 D = some (.lst acc) ∧ acc.length < sizeLine ∧ Nx1 (upd H7 D (.lst (acc ++ [y]))) else Nx1 H6)
        else Nx H3) := by
  refine ⟨fun i j H => ∃ m S, j = ds0.length - i ∧ i ≤ ds0.length ∧ Ext m0 H0 m H ∧ RS G m H S ∧ m[k]? = some D ∧ lcL2 t (fun ρ S => evC C cnd ρ S) (fun ρ S => evW C it2 ρ S) t2 (fun ρ S => evC C cnd2 ρ S) (fun ρ S => evE C e0 ρ S) ρ g k (ds0.drop i) S = .ok () Sf, fun m H S x rs hm e => ⟨m, S, rfl, Nat.zero_le _, x, rs, hm, e⟩, ?_⟩
  rintro i j H ⟨m, S, rfl, hi, x, rs, hm, e⟩
  by_cases hlt : i < ds0.length
  · have hd : ds0.drop i = ds0[i] :: ds0.drop (i + 1) := List.drop_eq_getElem_cons hlt
    rw [hd] at e
    simp only [lcL2] at e
    split at e
    · rename_i hg
      obtain ⟨go, yl⟩ := (ry m H S x rs hg i).1 ds0[i] (List.getElem?_eq_getElem hlt)
      split at e
      · rename_i ρ1 et
        refine .inr ⟨go, fun H' => ∃ m' S', Ext m0 H0 m' H' ∧ RS G m' H' S' ∧ m'[k]? = some D ∧ lcL2 t (fun ρ S => evC C cnd ρ S) (fun ρ S => evW C it2 ρ S) t2 (fun ρ S => evC C cnd2 ρ S) (fun ρ S => evE C e0 ρ S) ρ g k (ds0.drop (i + 1)) S' = .ok () Sf, ?_, ?_⟩
        · rintro H' ⟨m', S', x', rs', hm', e'⟩
          exact ⟨ds0.length - (i + 1), by omega, m', S', rfl, hlt, x', rs', hm', e'⟩
        · intro v H1 hy
          obtain ⟨x1, rs1, r1⟩ := yl v H1 hy
          refine ⟨m, ρ, S, ds0[i], ρ1, (re0.mono x).mono x1, rs1, r1, et, fun σ2 re2 sm => ⟨wipe_same sm hs, ?_⟩⟩
          obtain ⟨b, S2, eb, e3⟩ := fin_th e
          refine tX.okk re2 rs1 eb fun m2 H2 b' x2 re3 rs2 rb => ?_
          have eb' : b = b' := rb
          subst eb'
          cases b with
          | false => exact ⟨m2, S2, (x.trans x1).trans x2, rs2, pre_get x2.pre hm, e3⟩
          | true =>
            simp only [if_true] at e3 ⊢
            obtain ⟨p, S3, ed, e4⟩ := fin_th e3
            obtain ⟨_, S4, e5, e6⟩ := fin_th e4
            refine tX.okk re3 rs2 ed fun m3 H3 J1 x3 re4 rs3 ry3 => ?_
            have hm3 := pre_get (x2.trans x3).pre hm
            obtain ⟨W1, w1, w2⟩ := lc_run (C := C) (cnd := cnd2) (e0 := e0) (k := k) (D := D) (Sf := S4) (Q := fun H' => ∃ m' S', Ext m0 H0 m' H' ∧ RS G m' H' S' ∧ m'[k]? = some D ∧ lcL2 t (fun ρ S => evC C cnd ρ S) (fun ρ S => evW C it2 ρ S) t2 (fun ρ S => evC C cnd2 ρ S) (fun ρ S => evE C e0 ρ S) ρ g k (ds0.drop (i + 1)) S' = .ok () Sf) (g := p.2) (ds0 := p.1) (t := t2) (own := idxs t2) (σ := σ2) (ρ := Ev.wipe ρ1 (tgIx t2)) ry3 (fun _ h => h) (by rw [idxs_eq]; exact re4.wipe _) fun m' H' x' rs' hm' => ⟨m', S4, ((x.trans x1).trans (x2.trans x3)).trans x', rs', hm', e6⟩
            exact ⟨W1, ⟨_, w1 _ _ _ Ext.refl rs3 hm3 e5⟩, w2⟩
      · cases e
    · cases e
  · have e1 : i = ds0.length := by omega
    have hd : ds0.drop i = [] := List.drop_eq_nil_of_le (by omega)
    rw [hd] at e
    simp only [lcL2] at e
    split at e
    · rename_i hg
      cases e
      exact .inl ⟨(ry m H _ x rs hg i).2 e1.symm, fin m H x rs hm⟩
    · cases e
theorem lc2_read {k : Bool} {own : List Nat} {t t2 : Tg} {it it2 : Iter} {cnd cnd2 : Exo} {e0 : Ex} (hs : ∀ i ∈ idxs t, i ∈ own) (σ : L2.St) (H : Hp) (Q : VK) (h : tE G W (evE C (.lc2 k own t it cnd t2 it2 cnd2 e0)) σ H Q) : tLc2 (tW G W (evW C it)) (gT G t) (tT G noW (evC C cnd)) (tW G noW (evW C it2)) (gT G t2) (tT G noW (evC C cnd2)) (tE G noW (evE C e0)) own (idxs t2) σ H Q := by
  obtain ⟨m, ρ, S, re, rs, q⟩ := h
  simp only [evE] at q
  refine tX.go re rs q fun p S1 m1 H1 J x1 re1 rs1 ry q1 => ?_
  obtain ⟨_, S2, e2, q2⟩ := fin_nox q1
  intro D hD
  have xc : Ext m1 H1 (m1 ++ [D]) (upd H1 D (.lst [])) := Ext.cell hD
  have rsc : RS G (m1 ++ [D]) (upd H1 D (.lst [])) (S1 ++ [.lst []]) := rs1.cell hD ⟨[], upd_same, RepL.nil⟩
  have hk : (m1 ++ [D])[S1.length]? = some D := by rw [← rs1.len]; simp
  have hDm : D ∉ m1 := rs1.fresh hD
  obtain ⟨Wd, w0, wn⟩ := lc2_run (C := C) (cnd := cnd) (it2 := it2) (t2 := t2) (cnd2 := cnd2) (e0 := e0) (k := S1.length) (D := D) (Sf := S2) (Q := Q (.ref D)) (g := p.2) (ds0 := p.1) (t := t) (own := own) (σ := σ) (ρ := Ev.wipe ρ own) ry hs (re1.wipe own) fun m' H' x' rs' hm' => by
    unfold lcE at q2
    split at q2
    · rename_i l el
      obtain ⟨p', hp', vs, hv, rl⟩ := rs'.cel _ _ el
      rw [hm'] at hp'
      cases hp'
      split at q2
      · exact q2 m' H' _ x' rs' (rep_ref hm')
      · split at q2
        · rename_i hcut
          rw [Bool.and_eq_true] at hcut
          obtain ⟨rs4, x4⟩ := rs'.drop x' rs1 hcut.1
          exact q2 m1 H' _ x4 rs4 (rep_lst ⟨hDm, .inl hv⟩ (RepL.less x'.pre _ _ (by rw [rs1.len]; exact hcut.2) rl))
        · exact q2 m' H' _ x' rs' (rep_ref hm')
    · exact q2.elim
  exact ⟨Wd, ⟨_, w0 _ _ _ xc rsc hk e2⟩, wn⟩
theorem r_lc2 (c : Ctx G n X s W) {k : Bool} {own : List Nat} {t t2 : Tg} {it it2 : Iter} {cnd cnd2 : Exo} {e0 : Ex} {elt tgE iter tgE2 iter2 : Expr} {ifs ifs2 : List Expr} {sc : Scope} (hi : PI X tgE iter (tW G W (evW C it))) (hns : noSet iter = true) (hns2 : noSet iter2 = true)
    (hb : L2.blkC s.N s.sc sc (own.map fun j => (s.N.getD j "", j)) = true) (hs : ∀ i ∈ idxs t, i ∈ own) (hs2 : ∀ i ∈ idxs t2, i ∈ own)
    (ht : ∀ X', Ctx G n X' ⟨s.N, L2.relS sc s.sc, some sc⟩ noW → PG X' tgE (gT G t) ∧ PTs X' ifs (tT G noW (evC C cnd)) ∧ PI X' tgE2 iter2 (tW G noW (evW C it2)) ∧ PG X' tgE2 (gT G t2) ∧ PTs X' ifs2 (tT G noW (evC C cnd2)) ∧ PE X' elt (tE G noW (evE C e0))) :
    PE X (.ListComp elt [⟨tgE, iter, ifs, 0⟩, ⟨tgE2, iter2, ifs2, 0⟩] sc pos) (tE G W (evE C (.lc2 k own t it cnd t2 it2 cnd2 e0))) := by
  have q0 := pe_lc2 (pos := pos) (vs1 := idxs t2) c.calm c.nN hi (blkOk_by (by rw [c.N, c.sc]; exact hb)) (by rw [own_map]; exact hs2) (fun st H Ca cl fp => (ht _ (blk_ctx c st H Ca cl fp)).1) (fun st H Ca cl fp => (ht _ (blk_ctx c st H Ca cl fp)).2.1) (fun st H Ca cl fp => (ht _ (blk_ctx c st H Ca cl fp)).2.2.1) (fun st H Ca cl fp => (ht _ (blk_ctx c st H Ca cl fp)).2.2.2.1) (fun st H Ca cl fp => (ht _ (blk_ctx c st H Ca cl fp)).2.2.2.2.1) (fun st H Ca cl fp => (ht _ (blk_ctx c st H Ca cl fp)).2.2.2.2.2) (folded_of hns) (fun _ => folded_of hns2)
  rw [own_map] at q0
  exact pe_imp q0 (lc2_read hs)
end
end Ev
end
section
set_option maxRecDepth 100000
set_option maxHeartbeats 8000000
/-! Ev, part 14b: dicts whose keys are tuples of ints. -/
namespace Ev
open PySem PySem.Spec PyProof.Rows L2
/-! #### keys -/
theorem iK_inj {i j : Int} (h : iK i = iK j) : i = j := Sum.inl.inj h
theorem iKs_inj : ∀ {k l : List Int}, k.map iK = l.map iK → k = l
  | [], [], _ => rfl
  | [], _ :: _, h => by cases h
  | _ :: _, [], h => by cases h
  | x :: k, y :: l, h => by
    rw [List.map_cons, List.map_cons] at h
    injection h with h1 h2
    rw [iK_inj h1, iKs_inj h2]
theorem kVs (k : List Int) : (k.map iK).map kV = k.map V.int := by
  rw [List.map_map]
  rfl
section
variable {G : Pg} {m : List Addr} {H : Hp} {S : Store}
theorem allInt_rep : ∀ {l : List D} {vs : List V} {k : List Int}, RepL G m H l vs → allInt l = some k → vs = k.map V.int
  | [], _, _, r, e => by
    cases e
    simp only [RepL] at r
    exact r
  | d :: l, vs, k, r, e => by
    simp only [RepL] at r
    obtain ⟨v, us, rfl, r1, r2⟩ := r
    cases d <;> simp only [allInt] at e <;> try (cases e; done)
    split at e
    · rename_i k2 e2
      cases e
      rw [allInt_rep r2 e2, r1.int_inv]
      rfl
    · cases e
theorem ints_rep : ∀ (k : List Int), RepL G m H (k.map .int) (k.map V.int)
  | [] => RepL.nil
  | i :: k => RepL.cons rep_int (ints_rep k)
abbrev zK (kvs : List (List Int × D)) (vs : List V) : List (List Key × V) := (kvs.map fun q => q.1.map iK).zip vs
theorem getK_rep {k : List Int} : ∀ {kvs : List (List Int × D)} {vs : List V}, RepL G m H (kvs.map (·.2)) vs →
    match getK k kvs with
    | some d => ∃ v, valV (zK kvs vs) (k.map iK) = some v ∧ Rep G m H d v
    | none => valV (zK kvs vs) (k.map iK) = none
  | [], vs, _ => rfl
  | (j, d) :: kvs, vs, r => by
    simp only [List.map_cons, RepL] at r
    obtain ⟨v, us, rfl, r1, r2⟩ := r
    unfold getK
    by_cases h : j = k
    · rw [if_pos h]
      exact ⟨v, valV_pos (p := (j.map iK, v)) (by rw [h]), r1⟩
    · rw [if_neg h]
      have e : valV (zK ((j, d) :: kvs) (v :: us)) (k.map iK) = valV (zK kvs us) (k.map iK) := valV_neg (p := (j.map iK, v)) fun z => h (iKs_inj z)
      rw [e]
      exact getK_rep r2
theorem any_rep {k : List Int} : ∀ {kvs : List (List Int × D)} {vs : List V}, RepL G m H (kvs.map (·.2)) vs → ((zK kvs vs).any fun q => decide (q.1 = k.map iK)) = kvs.any fun q => decide (q.1 = k)
  | [], vs, _ => rfl
  | (j, d) :: kvs, vs, r => by
    simp only [List.map_cons, RepL] at r
    obtain ⟨v, us, rfl, _, r2⟩ := r
    show (decide (j.map iK = k.map iK) || (zK kvs us).any _) = (decide (j = k) || kvs.any _)
    rw [any_rep r2]
    congr 1
    by_cases h : j = k
    · rw [decide_eq_true h, decide_eq_true (by rw [h])]
    · rw [decide_eq_false h, decide_eq_false fun z => h (iKs_inj z)]
theorem map_rep {k : List Int} {x : D} {y : V} (ry : Rep G m H x y) : ∀ {kvs : List (List Int × D)} {vs : List V}, RepL G m H (kvs.map (·.2)) vs →
    ∃ us, ((zK kvs vs).map fun q => if q.1 = k.map iK then (q.1, y) else q) = zK (kvs.map fun q => if q.1 = k then (q.1, x) else q) us ∧ RepL G m H ((kvs.map fun q => if q.1 = k then (q.1, x) else q).map (·.2)) us
  | [], vs, _ => ⟨[], rfl, RepL.nil⟩
  | (j, d) :: kvs, vs, r => by
    simp only [List.map_cons, RepL] at r
    obtain ⟨v, us, rfl, r1, r2⟩ := r
    obtain ⟨ws, e, rw'⟩ := map_rep (k := k) ry r2
    by_cases h : j = k
    · refine ⟨y :: ws, ?_, ?_⟩
      · show (if j.map iK = k.map iK then (j.map iK, y) else (j.map iK, v)) :: (zK kvs us).map (fun q => if q.1 = k.map iK then (q.1, y) else q) = _
        rw [if_pos (by rw [h]), e]
        simp only [List.map_cons, if_pos h]
        rfl
      · simp only [List.map_cons, if_pos h]
        exact RepL.cons ry rw'
    · refine ⟨v :: ws, ?_, ?_⟩
      · show (if j.map iK = k.map iK then (j.map iK, y) else (j.map iK, v)) :: (zK kvs us).map (fun q => if q.1 = k.map iK then (q.1, y) else q) = _
        rw [if_neg (fun z => h (iKs_inj z)), e]
        simp only [List.map_cons, if_neg h]
        rfl
      · simp only [List.map_cons, if_neg h]
        exact RepL.cons r1 rw'
theorem zK_len {kvs : List (List Int × D)} {vs : List V} (r : RepL G m H (kvs.map (·.2)) vs) : (zK kvs vs).length = kvs.length := by
  have := r.length
  rw [List.length_map] at this
  rw [List.length_zip, List.length_map, ← this, Nat.min_self]
theorem putD_rep {k : List Int} {x : D} {y : V} (ry : Rep G m H x y) {kvs : List (List Int × D)} {vs : List V} (r : RepL G m H (kvs.map (·.2)) vs) :
    ∃ us, putK (zK kvs vs) (k.map iK) y = zK (putD k x kvs) us ∧ RepL G m H ((putD k x kvs).map (·.2)) us := by
  unfold putK putD
  rw [any_rep r]
  split
  · exact map_rep ry r
  · refine ⟨vs ++ [y], ?_, ?_⟩
    · show zK kvs vs ++ [(k.map iK, y)] = ((kvs ++ [(k, x)]).map fun q => q.1.map iK).zip (vs ++ [y])
      rw [List.map_append, List.zip_append (by rw [List.length_map, ← r.length, List.length_map])]
      rfl
    · rw [List.map_append]
      exact r.append (RepL.cons ry RepL.nil)
end
/-! #### the hand layer's rules, for keys that may be constants -/
section
variable {X : Cx} {pins : List (Addr × Obj)} {σ : L2.St} {H : Hp} {s : Shared}
theorem key_sq {b : Addr} {ks : List Key} (I : Inv X pins σ H s) (h : SqT X.K H b (ks.map kV)) : (tupleKind (mixKind X.prog X.w)).is s.heap ks b := by
  obtain ⟨its, r, ⟨o, h1, h2, n, h3⟩, _⟩ := I.tuple h
  have q := items_are (P := X.prog) (w := X.w) r
  exact ⟨o, its.toArray, n, h1, h2, h3, by rw [List.toList_toArray]; exact q⟩
theorem get_sq {a b : Addr} {kvs : List (List Key × V)} {ks : List Key} {d : V} {r : Value} {Q : Value → Shared → Prop} (hu : X.A.units + 1 < cLine) (I : Inv X pins σ H s) (ha : Rd H a (.dT kvs)) (hb : SqT X.K H b (ks.map kV)) (rd : RelV d r)
    (h : ∀ w' s', Inv X pins σ H s' → RelV ((valV kvs ks).getD d) w' → Q w' s') : wpAny (model X.prog X.w) X.A (call (.builtin "dict.get") [.ref a, .ref b, r]) Q X.xe s := by
  obtain ⟨_, hm, xs, rel, dd⟩ := dt_rd I.hok ha
  have mt := meetsH_dict_get_default (prog := X.prog) (w := X.w) (tupleKind (mixKind X.prog X.w)) a b hm r
  have fin : ∀ tk, RelV ((valV kvs ks).getD d) (((atKey xs ks).map (·.2)).getD r) → Q (((atKey xs ks).map (·.2)).getD r) { s with toks := tk } := fun tk z => h _ _ (I.tok tk) z
  exact call_meetsIn F.slot_dict_get dd.typeIs F.entry_dict_get (F.args_dict_get_3 _ _ _) mt
    ⟨tupleKind_room_in1 hu, ks, xs, key_sq I hb, dd, fin _ ((rel.val ks).getD rd)⟩
theorem two_trees {e f : Expr} {pos : Pos} {env : Env} (he : noStar e = true) (hf : noStar f = true) : backTo pos (starEach [e, f] env) = [(false, eval e env), (false, eval f env)] := by
  rw [star_of he, star_of hf]
  rfl
theorem m2_of {o e f : Expr} {x : Str} {p q : Pos} (ho : noSup o = true) (he : noStar e = true) (hf : noStar f = true) (hl : (p.endLine == q.line) = true) : M2 X o x p e f q :=
  ⟨base_of ho, by rw [two_trees he hf]; rfl, hl, two_trees he hf⟩
/-- d.get(k, x) -/
def tGetS (K : PySem.W.Frag) (td tk tx : TE) : TE := fun σ H Q => td σ H fun x H1 => ∃ a kvs0, x = .ref a ∧ Rd H1 a (.dT kvs0) ∧ tk σ H1 fun y H2 => tx σ H2 fun z H3 =>
  ∃ b kvs ks, y = .ref b ∧ Rd H3 a (.dT kvs) ∧ SqT K H3 b (ks.map kV) ∧ Q ((valV kvs ks).getD z) H3
theorem pe_getS {o e f : Expr} {p q : Pos} {td tk tx : TE} (hu : X.A.units + 1 < cLine) (ho : PE X o td) (he : PE X e tk) (hf : PE X f tx) (mm : M2 X o "get" p e f q) : PE X (.Call (.Attribute o "get" p) [e, f] [] q) (tGetS X.K td tk tx) := by
  refine ⟨fun pins s σ H Q I h => ?_⟩
  have start := ho.run pins s σ H _ I h
  refine wpAny_Call_method mm.base mm.few mm.line F.plainAttrs_dict F.slot_dict_get F.type_dict_get (thn start fun u s1 ⟨x, H1, I1, rx, a, kvs0, ex, ra, q1⟩ => ?_)
  subst ex
  obtain rfl : u = .ref a := rx
  obtain ⟨t1, t2, _⟩ := isD_at I1 (.inr ⟨kvs0, ra⟩)
  refine ⟨t1, t2, ?_⟩
  rw [mm.trees]
  refine Calls.callWith_builtin rfl (Calls.evalArgs_plain ?_)
  refine Calls.spliced_cons (thn (he.run pins s1 σ H1 _ I1 q1) fun v1 s2 ⟨y, H2, I2, ry, q2⟩ => ?_)
  refine Calls.spliced_cons (thn (hf.run pins s2 σ H2 _ I2 q2) fun v2 s3 ⟨z, H3, I3, rz, b, kvs, ks, ey, rk, sk, q3⟩ => Calls.spliced_nil ?_)
  subst ey
  obtain rfl : v1 = .ref b := ry
  exact get_sq hu I3 rk sk rz fun w' s4 I4 rw' => ⟨_, H3, I4, rw', q3⟩
/-- {k: x} -/
def tOneT (tk tx : TE) : TE := fun σ H Q => ∀ p, H p = none → tk σ (upd H p (.dT [])) fun x H1 => tx σ H1 fun y H2 => ∃ b ks, x = .ref b ∧ H2 p = some (.dT []) ∧ H2 b = some (.tup (ks.map kV)) ∧ Q (.ref p) (upd H2 p (.dT [(ks, y)]))
theorem pe_oneT {e f : Expr} {pos : Pos} {tk tx : TE} (hu : X.A.units + 1 < cLine) (he : PE X e tk) (hf : PE X f tx) : PE X (.Dict [some e] [f] pos) (tOneT tk tx) := by
  refine ⟨fun pins s σ H Q I h => ?_⟩
  have hn := I.hok.fresh (Nat.le_refl s.heap.objs.size)
  have I0 := I.laid (a := s.heap.objs.size) (o := .dT []) (t' := s.toks) (fun _ _ z => Heap.get?_push_of_some _ z) (Nat.le_refl _) (dt_empty s.heap I.big)
  refine wpAny_Dict_any rfl rfl (by simp) (by show 1 ≤ 15; decide) ?_
  refine pairTrees_cons_walk (thn (he.run pins _ σ _ _ I0 (h _ hn)) fun v1 s1 ⟨x, H1, I1, rx, q1⟩ => ?_)
  refine thn (hf.run pins s1 σ H1 _ I1 q1) fun v2 s2 ⟨y, H2, I2, ry, b, ks, ex, e2, eb, q2⟩ => pairTrees_nil_walk ?_
  subst ex
  obtain rfl : v1 = .ref b := rx
  show wpAny _ _ (storeAll s.heap.objs.size [(.ref b, v2)]) _ _ s2
  unfold storeAll
  rw [List.forIn_cons]
  obtain ⟨z, hd, xs, rel, dd⟩ := dt_of I2.hok e2
  have hx : xs = [] := List.eq_nil_of_length_eq_zero (by rw [← Paired.length rel]; rfl)
  subst hx
  have rel0 : L2.KT H2 [] [] := .nil
  refine wpAny_bind (wpAny_bind ?_)
  refine wpAny_dictSet_heap (hsz := Nat.zero_le _) (knd := tupleKind (mixKind X.prog X.w)) (show X.A.units < cLine by omega) (key_of I2.hok eb) dd fun h' dd' hs => wpAny_pure ?_
  show wpAny _ _ (forIn [] _ _) _ _ _
  rw [List.forIn_nil]
  refine wpAny_pure ?_
  obtain ⟨o, es, ep, g1, g2, g3, g4, _, g5⟩ := dd'
  have keepT : ∀ c ys, H2 c = some (.tup ys) → upd H2 s.heap.objs.size (.dT [(ks, y)]) c = some (.tup ys) := fun c ys ec => by
    rw [upd_ne (ne_of ec e2 (fun z => nomatch z))]
    exact ec
  have new : ObjOk X.prog X.w (upd H2 s.heap.objs.size (.dT [(ks, y)])) h' s.heap.objs.size (.dT [(ks, y)]) :=
    ⟨by show 1 ≤ sizeLine; decide, hd, _, (rel0.put ks eb ry).keeps keepT, o, es, ep, g1, g2, g3, g4, g5⟩
  exact ⟨.ref s.heap.objs.size, _, d_write I2 (by rw [e2]; exact True.intro) hs ⟨o, g1⟩ new, rfl, q2⟩
end
/-! #### the rules -/
section
variable {G : Pg} {n : Nat} {X : Cx} {s : Sx} {W : WX} {C : Cs} {e x y z : Expr} {p pos apos : Pos} {a b k : Ex} {m : List Addr} {H : Hp} {S : Store}
theorem Lk.rd {lk : Bool} {p : Addr} {u : HO} (h : Lk lk H p u) : Rd H p u := by
  cases lk with
  | true => exact .inr h
  | false => exact .inl h
theorem dct_rd {d : D} {v : V} {kvs : List (List Int × D)} (rs : RS G m H S) (r : Rep G m H d v) (h : dctOf d S = some kvs) : ∃ p vs, v = .ref p ∧ Rd H p (.dT (zK kvs vs)) ∧ RepL G m H (kvs.map (·.2)) vs := by
  unfold dctOf at h
  split at h
  · split at h
    · rename_i lk l el
      cases h
      obtain ⟨p, rfl, hp⟩ := r.ref_inv
      obtain ⟨p', hp', vs, hv, rl⟩ := rs.cel _ _ el
      rw [hp] at hp'; cases hp'
      exact ⟨p, vs, rfl, hv.rd, rl⟩
    · cases h
  · cases h
theorem key_rd {d : D} {v : V} {k : List Int} (r : Rep G m H d v) (h : keyD d = some k) : ∃ b, v = .ref b ∧ SqT G.K H b ((k.map iK).map kV) := by
  unfold keyD at h
  split at h
  · obtain ⟨p, vs, rfl, f, rl⟩ := r.tup_inv
    refine ⟨p, rfl, ?_⟩
    rw [kVs, ← allInt_rep rl h]
    exact f.sq
  · cases h
theorem lstI_sq {d : D} {v : V} {k : List Int} (rs : RS G m H S) (r : Rep G m H d v) (h : lstI d S = some k) : ∃ p, v = .ref p ∧ Rd H p (.lst (k.map V.int)) := by
  unfold lstI at h
  split at h
  · rename_i l el
    obtain ⟨p, vs, rfl, rd, rl⟩ := lstOf_sq rs r el
    exact ⟨p, rfl, by rw [← allInt_rep rl h]; exact rd⟩
  · cases h
/-- tuple(e) of a list -/
def rTupC : List V → Hp → VK → Prop := fun us H Q => ∃ p xs, us = [.ref p] ∧ Rd H p (.lst xs) ∧ ∀ q, H q = none → Q (.ref q) (upd H q (.tup xs))
theorem call_tupC : CallR X (.type "tuple") rTupC := by
  rintro pins s σ H us ws Q I r ⟨p, xs, eu, rd, h⟩
  exact call_tuple_of pins s σ H us ws Q I r ⟨p, xs, eu, .inl ⟨sq_of rd, h⟩⟩
def tTupC (te : TE) : TE := fun σ H Q => te σ H fun v H1 => rTupC [v] H1 Q
theorem pe_tupC (hd : Hd G) (c : Ctx G n X s W) {te : TE} (hg : gloB s "tuple" = true) (ha : PE X y te) (hy : noStar y = true) : PE X (.Call (.Name "tuple" p) [y] [] pos) (tTupC te) := by
  obtain ⟨g1, g2, g3, g4, g5⟩ := c.glo hg
  have pa : PA X [y] (tCons te tNil) := pa_cons ha pa_nil (star_of hy)
  exact pe_imp (pe_callTy call_tupC g1 (c.blt hd (by decide)) (by rfl) pa g3 g2 (star_of hy) (any_star (by rfl))) fun σ H Q q => q
theorem r_dnew : PE X (.Dict [] [] pos) (tE G W (evE C .dnew)) := pe_imp pe_dnewT fun σ H Q ⟨m, ρ, S, re, rs, q⟩ => by
  simp only [evE] at q
  intro p hp
  exact q (m ++ [p]) _ _ (Ext.cell hp) (rs.cell hp ⟨[], upd_same, RepL.nil⟩) (rep_ref (by rw [← rs.len]; simp))
theorem r_dget (c : Ctx G n X s W) (ho : PE X x (tE G W (evE C a))) (hs : noSup x = true) (hk : PE X y (tE G W (evE C k))) (hy : noStar y = true) (hv : PE X z (tE G W (evE C b))) (hz : noStar z = true) (hp : (apos.endLine == pos.line) = true) :
    PE X (.Call (.Attribute x "get" apos) [y, z] [] pos) (tE G W (evE C (.dget a k b))) := by
  have hu : X.A.units + 1 < cLine := by have := c.units; omega
  refine pe_imp (pe_getS hu ho hk hv (m2_of hs hy hz hp)) fun σ H Q ⟨m, ρ, S, re, rs, q⟩ => ?_
  simp only [evE] at q
  refine tX.go re rs q fun d S1 m1 H1 v1 x1 re1 rs1 r1 q1 => ?_
  split at q1
  · rename_i ok
    obtain ⟨kvs0, ek⟩ := Option.isSome_iff_exists.mp ok
    obtain ⟨q0, vs0, rfl, rd0, _⟩ := dct_rd rs1 r1 ek
    refine ⟨q0, _, rfl, rd0, tX.go re1 rs1 q1 fun d2 S2 m2 H2 v2 x2 re2 rs2 r2 q2 => tX.go re2 rs2 q2 fun d3 S3 m3 H3 v3 x3 re3 rs3 r3 q3 => ?_⟩
    obtain ⟨u, eu, q4⟩ := q3.at_oe
    unfold dgetD at eu
    split at eu
    · rename_i kvs kk e1 e2
      obtain ⟨p1, vs, ep, rd, rl⟩ := dct_rd rs3 (Rep.mono x3 _ _ (Rep.mono x2 _ _ r1)) e1
      cases ep
      obtain ⟨b1, rfl, sq⟩ := key_rd (Rep.mono x3 _ _ r2) e2
      refine ⟨b1, _, _, rfl, rd, by rw [c.K]; exact sq, ?_⟩
      have g := getK_rep (k := kk) rl
      cases eg : getK kk kvs with
      | some d' =>
        rw [eg] at g eu
        obtain ⟨w', ew, rw'⟩ := g
        cases eu
        rw [ew]
        exact q4.at_ok rs3 rw'
      | none =>
        rw [eg] at g eu
        cases eu
        have g' : valV (zK kvs vs) (kk.map iK) = none := g
        rw [g']
        exact q4.at_ok rs3 r3
    · cases eu
  · exact q1.elim
theorem r_dlit (hd : Hd G) (c : Ctx G n X s W) (hg : gloB s "tuple" = true) (hk : PE X y (tE G W (evE C k))) (hy : noStar y = true) (hv : PE X z (tE G W (evE C b))) :
    PE X (.Dict [some (.Call (.Name "tuple" p) [y] [] apos)] [z] pos) (tE G W (evE C (.dlit k b))) := by
  have hu : X.A.units + 1 < cLine := by have := c.units; omega
  refine pe_imp (pe_oneT hu (pe_tupC hd c hg hk hy) hv) fun σ H Q ⟨m, ρ, S, re, rs, q⟩ => ?_
  simp only [evE] at q
  intro p hp
  have x0 : Ext m H (m ++ [p]) (upd H p (.dT [])) := Ext.cell hp
  have rs0 : RS G (m ++ [p]) (upd H p (.dT [])) (S ++ [.dct false []]) := rs.cell hp ⟨[], upd_same, RepL.nil⟩
  refine tX.go (re.mono x0) rs0 (Fin.ext x0 q) fun d S1 m1 H1 v1 x1 re1 rs1 r1 q1 => ?_
  obtain ⟨kk, ek, q2⟩ := q1.at_o
  obtain ⟨b1, rfl, rb⟩ := lstI_sq rs1 r1 ek
  refine ⟨b1, _, rfl, rb, fun t ht => ?_⟩
  have xt : Ext m1 H1 m1 (upd H1 t (.tup (kk.map V.int))) := Ext.new ht
  refine tX.go (re1.mono xt) (rs1.new ht) (Fin.ext xt q2) fun d3 S3 m3 H3 v3 x3 re3 rs3 r3 q3 => ?_
  unfold dnewD at q3
  split at q3
  · rename_i es
    obtain ⟨p', hp', vs, hv', _⟩ := rs3.cel _ _ es
    have h3 : m3[S.length]? = some p := pre_get (x1.trans (xt.trans x3)).pre (by rw [← rs.len]; simp)
    rw [h3] at hp'
    cases hp'
    have e3 : H3 p = some (.dT []) := hv'
    have nf : NF H3 p := NF.of e3 fun _ _ z => nomatch z
    have xw : Ext m3 H3 m3 (upd H3 p (.dT [(kk.map iK, v3)])) := Ext.write (List.mem_of_getElem? h3) nf
    refine ⟨t, kk.map iK, rfl, e3, ?_, ?_⟩
    · rw [kVs]
      exact (x3.keep t _ upd_same (rs1.fresh ht)).1
    · exact q3 m3 _ _ xw (rs3.write (c := .dct false [(kk, d3)]) nf h3 ⟨[v3], upd_same, RepL.cons (Rep.mono xw _ _ r3) RepL.nil⟩) (rep_ref h3)
  · exact q3.elim
end
end Ev
end
section
set_option maxRecDepth 100000
set_option maxHeartbeats 8000000
/-! Ev, part 15: every checked expression does what the evaluator says. -/
namespace Ev
open PySem PySem.Spec PyProof.Rows L2
theorem opB_of {o : Op} {p : Operator} (h : opB o p = true) : p = o.of := by
  cases o <;> cases p <;> first | rfl | (cases h; done)
theorem cpB_of {o : Cp} {p : CmpOp} (h : cpB o p = true) : p = o.of := by
  cases o <;> cases p <;> first | rfl | (cases h; done)
section
variable {G : Pg} {n : Nat}
/-- what of a test is shown: whatever stands around it, if it is and, or -/
structure TOk (X : Cx) (e : Expr) (t : TT) : Prop where
  pt : PT X e t
  pw : ∀ op es pos, e = .BoolOp op es pos → PW X e t
theorem TOk.of {X : Cx} {e : Expr} {t : TT} (h : PT X e t) (ne : ∀ op es pos, e ≠ .BoolOp op es pos) : TOk X e t := ⟨h, fun op es pos e => absurd e (ne op es pos)⟩
theorem TOk.bad {X : Cx} {e : Expr} {W : WX} {C : Cs} {a : Ex} (h : ∀ ρ S, evT C a ρ S = .bad) : TOk X e (tT G W (evT C a)) := by
  have h0 : ∀ σ H Q, ¬ tT G W (evT C a) σ H Q := fun σ H Q ⟨m, ρ, S, re, rs, q⟩ => by rw [h] at q; exact q.elim
  exact ⟨pt_bad h0, fun _ _ _ _ => ⟨fun _ _ _ σ H Q _ q => (h0 σ H Q q).elim⟩⟩
theorem th_as {α β γ : Type} (r : Rs α) {k : α → Store → Rs β} {j : β → Store → Rs γ} {k' : α → Store → Rs γ} {t : Tag k} {t2 : Tag j} {t3 : Tag k'} (h : ∀ a S, k' a S = (k a S).th j t2) : r.th k' t3 = (r.th k t).th j t2 := by
  cases r with
  | ok a S => exact h a S
  | ex _ _ _ => rfl
  | bad => rfl
section
variable {C : Cs} (ρ : Fr) (S : Store)
theorem tr_var {i : Nat} : evT C (.var i) ρ S = (evE C (.var i) ρ S).th fun d S1 => ofO (truD d S1) S1 := by
  simp only [evE, evT]
  split <;> rfl
theorem tr_bl {b : Bool} : evT C (.bl b) ρ S = (evE C (.bl b) ρ S).th fun d S1 => ofO (truD d S1) S1 := by
  simp only [evE, evT]
  rfl
theorem tr_call {f : Nat} {es : Exs} : evT C (.call f es) ρ S = (evE C (.call f es) ρ S).th fun d S1 => ofO (truD d S1) S1 := by
  simp only [evE, evT]
  exact th_as _ fun _ _ => rfl
theorem tr_calk {f : Nat} {es ks : Exs} {pm : List Nat} : evT C (.calk f es ks pm) ρ S = (evE C (.calk f es ks pm) ρ S).th fun d S1 => ofO (truD d S1) S1 := by
  simp only [evE, evT]
  refine th_as _ fun ds S1 => ?_
  refine th_as _ fun zs S2 => ?_
  exact th_as _ fun _ _ => rfl
theorem tr_mth {f : Nat} {a : Ex} {es : Exs} : evT C (.mth a f es) ρ S = (evE C (.mth a f es) ρ S).th fun d S1 => ofO (truD d S1) S1 := by
  simp only [evE, evT]
  refine th_as _ fun ds S1 => ?_
  refine th_as _ fun zs S2 => ?_
  exact th_as _ fun _ _ => rfl
theorem tr_bi {b : Bi} {m : Bool} {es : Exs} : evT C (.bi b m es) ρ S = (evE C (.bi b m es) ρ S).th fun d S1 => ofO (truD d S1) S1 := by
  simp only [evE, evT]
  exact th_as _ fun _ _ => rfl
theorem tr_isI {a : Ex} {ts : List Ty} {p : Bool} : evT C (.isI a ts p) ρ S = (evE C (.isI a ts p) ρ S).th fun d S1 => ofO (truD d S1) S1 := by
  simp only [evE, evT]
  refine th_as _ fun ds S1 => ?_
  cases isAny C.T ds S1 ts <;> rfl
theorem tr_idx {a b : Ex} : evT C (.idx a b) ρ S = (evE C (.idx a b) ρ S).th fun d S1 => ofO (truD d S1) S1 := by
  simp only [evE, evT]
  refine th_as _ fun ds S1 => ?_
  exact th_as _ fun _ _ => rfl
theorem tr_att {a : Ex} {f : Nat} : evT C (.att a f) ρ S = (evE C (.att a f) ρ S).th fun d S1 => ofO (truD d S1) S1 := by
  simp only [evE, evT]
  exact th_as _ fun _ _ => rfl
theorem tr_bin {op : Op} {m : Bool} {a b : Ex} : evT C (.bin op m a b) ρ S = (evE C (.bin op m a b) ρ S).th fun d S1 => ofO (truD d S1) S1 := by
  simp only [evE, evT]
  refine th_as _ fun ds S1 => ?_
  exact th_as _ fun _ _ => rfl
end
theorem both {X : Cx} {e : Expr} {t : TE} {u : TT} (h : PE X e t) (g : PE X e t → TOk X e u) : PE X e t ∧ TOk X e u := ⟨h, g h⟩
variable (hd : Hd G) (np : NpOk G) {C : Cs} (hC : C = csOf G.T n)
include hd np hC
mutual
theorem okE : ∀ (a : Ex) (s : Sx) (W : WX) (X : Cx) (e : Expr), Ctx G n X s W → chkE G.M a s e = true → PE X e (tE G W (evE C a)) ∧ TOk X e (tT G W (evT C a))
  | .var i, s, W, X, e, c, h => by
    simp only [chkE] at h
    split at h
    · rename_i nm pp
      have q : PE X (.Name nm pp) (tE G W (evE C (.var i))) := r_var c h
      exact ⟨q, TOk.of (r_truth c q (fun ρ S => tr_var ρ S) fun _ => rfl) (by intro _ _ _ z; cases z)⟩
    · cases h
  | .non, s, W, X, e, c, h => by
    simp only [chkE] at h
    split at h
    · exact ⟨r_const pe_non (fun ρ S => by simp only [evE]) fun _ _ => rep_non, TOk.bad fun _ _ => by simp only [evT]⟩
    · cases h
  | .bl b, s, W, X, e, c, h => by
    simp only [chkE] at h
    split at h
    · rename_i d jj pp
      simp only [beq_iff_eq] at h
      subst h
      have q : PE X (.Constant (.bool b) jj pp) (tE G W (evE C (.bl b))) := r_const (d := .bl b) (v := .bl b) pe_bl (fun ρ S => by simp only [evE]) fun _ _ => rep_bl
      exact ⟨q, TOk.of (r_truth c q (fun ρ S => tr_bl ρ S) fun _ => rfl) (by intro _ _ _ z; cases z)⟩
    · cases h
  | .int i, s, W, X, e, c, h => by
    simp only [chkE] at h
    split at h
    · simp only [decide_eq_true_eq] at h
      subst h
      exact ⟨r_const pe_int (fun ρ S => by simp only [evE]) fun _ _ => rep_int, TOk.bad fun _ _ => by simp only [evT]⟩
    · cases h
  | .str t, s, W, X, e, c, h => by
    simp only [chkE] at h
    split at h
    · simp only [decide_eq_true_eq] at h
      subst h
      exact ⟨r_const pe_str (fun ρ S => by simp only [evE]) fun _ _ => rep_str, TOk.bad fun _ _ => by simp only [evT]⟩
    · cases h
  | .glb g, s, W, X, e, c, h => by
    simp only [chkE] at h
    split at h
    · simp only [Bool.and_eq_true, decide_eq_true_eq] at h
      exact ⟨r_glb hd c (by rw [hC, csOf_T]) h.1 h.2, TOk.bad fun _ _ => by simp only [evT]⟩
    · cases h
  | .bin op m a b, s, W, X, e, c, h => by
    simp only [chkE] at h
    split at h
    · simp only [Bool.and_eq_true] at h
      rw [opB_of h.1]
      exact both (r_bin c (okE a s W X _ c h.2.1).1 (okE b s W X _ c h.2.2).1) fun q => TOk.of (r_truth c q (fun ρ S => tr_bin ρ S) fun _ => rfl) (by intro _ _ _ z; cases z)
    · cases h
  | .neg a, s, W, X, e, c, h => by
    simp only [chkE] at h
    split at h
    · exact ⟨r_neg (okE a s W X _ c h).1, TOk.bad fun _ _ => by simp only [evT]⟩
    · cases h
  | .cmp op a b, s, W, X, e, c, h => by
    simp only [chkE] at h
    split at h
    · simp only [Bool.and_eq_true] at h
      rw [cpB_of h.1]
      exact ⟨r_cmp c op (okE a s W X _ c h.2.1).1 (okE b s W X _ c h.2.2).1 (noSet_of h.2.2), TOk.of (r_cmpT c op (okE a s W X _ c h.2.1).1 (okE b s W X _ c h.2.2).1 (noSet_of h.2.2)) (by intro _ _ _ z; cases z)⟩
    · cases h
  | .chn o1 o2 a b d, s, W, X, e, c, h => by
    simp only [chkE] at h
    split at h
    · simp only [Bool.and_eq_true] at h
      rw [cpB_of h.1, cpB_of h.2.1]
      exact ⟨r_chn c o1 o2 (okE a s W X _ c h.2.2.1).1 (okE b s W X _ c h.2.2.2.1).1 (okE d s W X _ c h.2.2.2.2).1 (noSet_of h.2.2.2.2), TOk.of (r_chnT c o1 o2 (okE a s W X _ c h.2.2.1).1 (okE b s W X _ c h.2.2.2.1).1 (okE d s W X _ c h.2.2.2.2).1 (noSet_of h.2.2.2.2)) (by intro _ _ _ z; cases z)⟩
    · cases h
  | .isN k a, s, W, X, e, c, h => by
    simp only [chkE] at h
    split at h
    · simp only [Bool.and_eq_true] at h
      have ha := (okE a s W X _ c h.2).1
      rename_i x0 p0 _ _ _
      have ho : p0 = if k then CmpOp.IsNot else CmpOp.Is := by
        obtain ⟨h, _⟩ := h
        split at h
        · exact rfl
        · exact rfl
        · cases h
      exact ⟨r_isN k (j := 0) (p2 := default) (kd := none) ha ho pe_non rfl, TOk.of (r_isNT k ha ho pe_non rfl) (by intro _ _ _ z; cases z)⟩
    · cases h
  | .and a b, s, W, X, e, c, h => by
    simp only [chkE] at h
    split at h
    · rename_i x y r pos
      simp only [Bool.and_eq_true] at h
      have h2' := okE b s W X _ c h.2
      have h2 := h2'.1
      have h1 := okE a s W X _ c h.1
      have qw : PW X (.BoolOp .And (x :: y :: r) pos) (tT G W (evT C (.and a b))) := by
        cases r with
        | nil => exact pw_imp (pw_and h1.2.pt (pw_and1 h2'.2.pt)) (t_and fun _ _ _ q => q)
        | cons z r => exact pw_imp (pw_and h1.2.pt (h2'.2.pw _ _ _ rfl)) (t_and fun _ _ _ q => q)
      refine ⟨r_and c h1.1 ?_, ⟨qw.pt, fun op es p' e => by cases e; exact qw⟩⟩
      cases r with
      | nil => exact pe_one h2
      | cons z r => exact h2
    · cases h
  | .or a b, s, W, X, e, c, h => by
    simp only [chkE] at h
    split at h
    · rename_i x y r pos
      simp only [Bool.and_eq_true] at h
      have h2' := okE b s W X _ c h.2
      have h2 := h2'.1
      have h1 := okE a s W X _ c h.1
      have qw : PW X (.BoolOp .Or (x :: y :: r) pos) (tT G W (evT C (.or a b))) := by
        cases r with
        | nil => exact pw_imp (pw_or h1.2.pt (pw_or1 h2'.2.pt)) (t_or fun _ _ _ q => q)
        | cons z r => exact pw_imp (pw_or h1.2.pt (h2'.2.pw _ _ _ rfl)) (t_or fun _ _ _ q => q)
      refine ⟨r_or c h1.1 ?_, ⟨qw.pt, fun op es p' e => by cases e; exact qw⟩⟩
      cases r with
      | nil => exact pe_one h2
      | cons z r => exact h2
    · cases h
  | .not a, s, W, X, e, c, h => by
    simp only [chkE] at h
    split at h
    · exact ⟨r_not c (okE a s W X _ c h).1, TOk.of (r_notT (okE a s W X _ c h).2.pt) (by intro _ _ _ z; cases z)⟩
    · cases h
  | .ife d a b, s, W, X, e, c, h => by
    simp only [chkE] at h
    split at h
    · simp only [Bool.and_eq_true] at h
      exact ⟨r_ife (okE d s W X _ c h.1).2.pt (okE a s W X _ c h.2.1).1 (okE b s W X _ c h.2.2).1, TOk.bad fun _ _ => by simp only [evT]⟩
    · cases h
  | .tup es, s, W, X, e, c, h => by
    simp only [chkE] at h
    split at h
    · simp only [Bool.and_eq_true, decide_eq_true_eq] at h
      exact ⟨r_tup (okL es s W X _ c h.2) (by rw [← lim]; exact h.1) (len_of h.2), TOk.bad fun _ _ => by simp only [evT]⟩
    · cases h
  | .lst m es, s, W, X, e, c, h => by
    simp only [chkE] at h
    split at h
    · simp only [Bool.and_eq_true, decide_eq_true_eq] at h
      exact ⟨r_lst (okL es s W X _ c h.2) (by rw [← lim]; exact h.1) (len_of h.2), TOk.bad fun _ _ => by simp only [evT]⟩
    · cases h
  | .idx a b, s, W, X, e, c, h => by
    simp only [chkE] at h
    split at h
    · simp only [Bool.and_eq_true] at h
      exact both (r_idx c (okE a s W X _ c h.2.1).1 (okE b s W X _ c h.2.2).1 h.1) fun q => TOk.of (r_truth c q (fun ρ S => tr_idx ρ S) fun _ => rfl) (by intro _ _ _ z; cases z)
    · cases h
  | .slc m a lo hi, s, W, X, e, c, h => by
    simp only [chkE] at h
    split at h
    · simp only [Bool.and_eq_true] at h
      exact ⟨r_slc c (okE a s W X _ c h.1).1 (okI lo s W X _ c h.2.1) (okI hi s W X _ c h.2.2), TOk.bad fun _ _ => by simp only [evT]⟩
    · cases h
  | .att a f, s, W, X, e, c, h => by
    simp only [chkE] at h
    split at h
    · simp only [Bool.and_eq_true, decide_eq_true_eq] at h
      exact both (r_att hd c (by rw [hC, csOf_T]) h.1 (okE a s W X _ c h.2).1 (chk_form _ _ _ h.2).2.2) fun q => TOk.of (r_truth c q (fun ρ S => tr_att ρ S) fun _ => rfl) (by intro _ _ _ z; cases z)
    · cases h
  | .call f es, s, W, X, e, c, h => by
    simp only [chkE] at h
    split at h
    · simp only [Bool.and_eq_true, decide_eq_true_eq] at h
      exact both (r_call hd np c hC h.1 h.2.1 h.2.2 (okL es s W X _ c h.2.2) (hd.fnl _ (List.getElem?_eq_some_iff.mp h.2.1).1)) fun q => TOk.of (r_truth c q (fun ρ S => tr_call ρ S) fun _ => rfl) (by intro _ _ _ z; cases z)
    · cases h
  | .calk f es ks pm, s, W, X, e, c, h => by
    simp only [chkE] at h
    split at h
    · simp only [Bool.and_eq_true, decide_eq_true_eq] at h
      obtain ⟨h1, h2, h3, h4, h5, h6⟩ := h
      exact both (r_calk hd np c hC h1 h2 h3 (okL es s W X _ c h3) h5 (okK ks s W X _ c h4) h4 (List.contains_iff_mem.mp h6)) fun q => TOk.of (r_truth c q (fun ρ S => tr_calk ρ S) fun _ => rfl) (by intro _ _ _ z; cases z)
    · cases h
  | .mak m k es, s, W, X, e, c, h => by
    simp only [chkE] at h
    split at h
    · simp only [Bool.and_eq_true, decide_eq_true_eq] at h
      exact ⟨r_mak hd np c hC h.1 h.2.1 h.2.2 (okL es s W X _ c h.2.2), TOk.bad fun _ _ => by simp only [evT]⟩
    · cases h
  | .makk m k es ks pm, s, W, X, e, c, h => by
    simp only [chkE] at h
    split at h
    · simp only [Bool.and_eq_true, decide_eq_true_eq] at h
      obtain ⟨h1, h2, h3, h4, h5, h6⟩ := h
      exact ⟨r_makk hd np c hC h1 h2 h3 (okL es s W X _ c h3) h5 (okK ks s W X _ c h4) h4 (List.contains_iff_mem.mp h6), TOk.bad fun _ _ => by simp only [evT]⟩
    · cases h
  | .mth a f es, s, W, X, e, c, h => by
    simp only [chkE] at h
    split at h
    · simp only [Bool.and_eq_true, decide_eq_true_eq] at h
      obtain ⟨h1, h2, h3, h4, h5⟩ := h
      exact both (r_mth hd np c hC h1 h5 (okE a s W X _ c h3).1 (chk_form _ _ _ h3).2.2 (okL es s W X _ c h5) h4 h2) fun q => TOk.of (r_truth c q (fun ρ S => tr_mth ρ S) fun _ => rfl) (by intro _ _ _ z; cases z)
    · cases h
  | .bi b m es, s, W, X, e, c, h => by
    simp only [chkE] at h
    split at h
    · simp only [Bool.and_eq_true, decide_eq_true_eq] at h
      obtain ⟨h1, h2, h3⟩ := h
      subst h2
      exact both (r_bi hd c h1 h3 (okL es s W X _ c h3)) fun q => TOk.of (r_truth c q (fun ρ S => tr_bi ρ S) fun _ => rfl) (by intro _ _ _ z; cases z)
    · cases h
  | .isI a ts p, s, W, X, e, c, h => by
    simp only [chkE] at h
    split at h
    · simp only [Bool.and_eq_true, decide_eq_true_eq] at h
      obtain ⟨h1, h2, h3, h4⟩ := h
      subst h2
      have ha := (okE a s W X _ c h3).1
      have hx := (chk_form _ _ _ h3).1
      refine both ?_ fun q => TOk.of (r_truth c q (fun ρ S => tr_isI ρ S) fun _ => rfl) (by intro _ _ _ z; cases z)
      split at h4
      · split at h4
        · exact r_isI1 hd c (by rw [hC, csOf_T]) h1 ha hx h4
        · cases h4
      · split at h4
        · simp only [Bool.and_eq_true, Bool.not_eq_true', decide_eq_true_eq, List.isEmpty_eq_false_iff] at h4
          exact r_isIT hd c (by rw [hC, csOf_T]) h1 ha hx h4.2.2 (by rw [← lim]; exact h4.2.1) h4.1
        · cases h4
    · cases h
  | .bm b a es, s, W, X, e, c, h => by
    simp only [chkE] at h
    split at h
    · simp only [Bool.and_eq_true, decide_eq_true_eq] at h
      obtain ⟨h1, h2, h3, h4, h5⟩ := h
      subst h1
      exact ⟨r_bm c h5 (okE a s W X _ c h3).1 (chk_form _ _ _ h3).2.2 (okL es s W X _ c h5) h4 h2, TOk.bad fun _ _ => by simp only [evT]⟩
    · cases h
  | .dnew, s, W, X, e, c, h => by
    simp only [chkE] at h
    split at h
    · exact ⟨r_dnew, TOk.bad fun _ _ => by simp only [evT]⟩
    · cases h
  | .dlit e0 v, s, W, X, e, c, h => by
    simp only [chkE] at h
    split at h
    · simp only [Bool.and_eq_true, decide_eq_true_eq] at h
      obtain ⟨h1, h2, h3, h4⟩ := h
      subst h2
      exact ⟨r_dlit hd c h1 (okE e0 s W X _ c h3).1 (chk_form _ _ _ h3).1 (okE v s W X _ c h4).1, TOk.bad fun _ _ => by simp only [evT]⟩
    · cases h
  | .dget a k v, s, W, X, e, c, h => by
    simp only [chkE] at h
    split at h
    · simp only [Bool.and_eq_true, decide_eq_true_eq] at h
      obtain ⟨h1, h2, h3, h4, h5⟩ := h
      subst h1
      exact ⟨r_dget c (okE a s W X _ c h3).1 (chk_form _ _ _ h3).2.2 (okE k s W X _ c h4).1 (chk_form _ _ _ h4).1 (okE v s W X _ c h5).1 (chk_form _ _ _ h5).1 h2, TOk.bad fun _ _ => by simp only [evT]⟩
    · cases h
  | .lc m own tg it d e0, s, W, X, e, c, h => by
    simp only [chkE] at h
    split at h
    · simp only [Bool.and_eq_true] at h
      obtain ⟨h1, h2, h3, h4, h5, h6⟩ := h
      refine ⟨?_, TOk.bad fun _ _ => by simp only [evT]⟩
      refine r_lc c (okW it s W X _ _ c h4) (chkW_set _ _ _ _ h4) (by rw [← c.N, ← c.sc] at h1 ⊢; exact h1) ?_ fun X' c' => ⟨r_tg c' h2, okC d _ _ X' _ c' h5, (okE e0 _ _ X' _ c' h6).1⟩
      intro i hi
      cases tg with
      | nm j =>
        simp only [idxs, List.mem_singleton] at hi
        subst hi
        exact List.contains_iff_mem.mp h3
      | tp js => exact List.contains_iff_mem.mp (List.all_eq_true.mp h3 i hi)
    · cases h
  | .lc2 m own tg it d tg2 it2 d2 e0, s, W, X, e, c, h => by
    simp only [chkE] at h
    split at h
    · simp only [Bool.and_eq_true] at h
      obtain ⟨h1, h2, h3, h4, h5, h6, h7, h8, h9, h10⟩ := h
      refine ⟨?_, TOk.bad fun _ _ => by simp only [evT]⟩
      exact r_lc2 c (okW it s W X _ _ c h4) (chkW_set _ _ _ _ h4) (chkW_set _ _ _ _ h8) (by rw [← c.N, ← c.sc] at h1 ⊢; exact h1) (fun i hi => List.contains_iff_mem.mp (List.all_eq_true.mp h3 i (by rw [idxs_eq]; exact hi))) (fun i hi => List.contains_iff_mem.mp (List.all_eq_true.mp h7 i (by rw [idxs_eq]; exact hi))) fun X' c' => ⟨r_tg c' h2, okC d _ _ X' _ c' h5, okW it2 _ _ X' _ _ c' h8, r_tg c' h6, okC d2 _ _ X' _ c' h9, (okE e0 _ _ X' _ c' h10).1⟩
    · cases h
theorem okL : ∀ (l : Exs) (s : Sx) (W : WX) (X : Cx) (es : List Expr), Ctx G n X s W → chkL G.M l s es = true → PA X es (tL G W (evL C l))
  | .nil, s, W, X, es, c, h => by
    simp only [chkL, List.isEmpty_iff] at h
    subst h
    exact r_nil
  | .cons a l, s, W, X, es, c, h => by
    simp only [chkL] at h
    split at h
    · simp only [Bool.and_eq_true] at h
      exact r_cons ((okE a s W X _ c h.1).1) (chk_form _ _ _ h.1).1 (okL l s W X _ c h.2)
    · cases h
theorem okK : ∀ (l : Exs) (s : Sx) (W : WX) (X : Cx) (qs : List Keyword), Ctx G n X s W → chkL G.M l s (kwE qs) = true → PK X qs (tL G W (evL C l))
  | .nil, s, W, X, qs, c, h => by
    simp only [chkL, List.isEmpty_iff] at h
    cases qs with
    | nil => exact r_knil
    | cons q qs => cases h
  | .cons a l, s, W, X, qs, c, h => by
    cases qs with
    | nil => simp [chkL, kwE] at h
    | cons q qs =>
      simp only [chkL, kwE, Bool.and_eq_true] at h
      obtain ⟨nm, e, kp⟩ := q
      exact r_kcons (okE a s W X _ c h.1).1 (okK l s W X _ c h.2)
theorem okI : ∀ (a : Exo) (s : Sx) (W : WX) (X : Cx) (o : Option Expr), Ctx G n X s W → chkO G.M a s o = true → PO X o (tI G W (evI C a))
  | .no, s, W, X, o, c, h => by
    simp only [chkO, Option.isNone_iff_eq_none] at h
    subst h
    exact r_no
  | .yes a, s, W, X, o, c, h => by
    simp only [chkO] at h
    split at h
    · exact r_yes (okE a s W X _ c h).1
    · cases h
theorem okC : ∀ (a : Exo) (s : Sx) (W : WX) (X : Cx) (es : List Expr), Ctx G n X s W → chkI G.M a s es = true → PTs X es (tT G W (evC C a))
  | .no, s, W, X, es, c, h => by
    simp only [chkI, List.isEmpty_iff] at h
    subst h
    exact ⟨fun pins st σ H Q I ⟨m, ρ, S, re, rs, q⟩ => pts_nil.run pins st σ H Q I (by
      simp only [evC] at q
      exact q.at_ok rs rfl)⟩
  | .yes a, s, W, X, es, c, h => by
    simp only [chkI] at h
    split at h
    · have q := pts_one (okE a s W X _ c h).2.pt
      exact ⟨fun pins st σ H Q I ⟨m, ρ, S, re, rs, q1⟩ => q.run pins st σ H Q I ⟨m, ρ, S, re, rs, by simp only [evC] at q1; exact q1⟩⟩
    · cases h
theorem okW : ∀ (it : Iter) (s : Sx) (W : WX) (X : Cx) (tg e : Expr), Ctx G n X s W → chkW G.M it s tg e = true → PI X tg e (tW G W (evW C it))
  | .seq a, s, W, X, tg, e, c, h => by
    simp only [chkW] at h
    exact w_seq c (okE a s W X _ c h).1
  | .rng es, s, W, X, tg, e, c, h => by
    simp only [chkW] at h
    split at h
    · simp only [Bool.and_eq_true, Bool.or_eq_true, decide_eq_true_eq] at h
      obtain ⟨h1, h2, h3, h4⟩ := h
      subst h2
      exact w_rng hd c h1 h4 h3 (okL es s W X _ c h4)
    · cases h
  | .enm a, s, W, X, tg, e, c, h => by
    simp only [chkW] at h
    split at h
    · simp only [Bool.and_eq_true, Bool.not_eq_true', decide_eq_true_eq] at h
      obtain ⟨⟨h0, h1⟩, h2, h3⟩ := h
      subst h2
      cases tg <;> first
        | exact w_enm hd c h1 (okE a s W X _ c h3).1 (chk_form _ _ _ h3).1
        | (simp [notTuple] at h0; done)
    · cases h
  | .zip a b, s, W, X, tg, e, c, h => by
    simp only [chkW] at h
    split at h
    · simp only [Bool.and_eq_true, Bool.not_eq_true', decide_eq_true_eq] at h
      obtain ⟨⟨h0, h1⟩, h2, h3, h4⟩ := h
      subst h2
      cases tg <;> first
        | exact w_zip hd c h1 (okE a s W X _ c h3).1 (chk_form _ _ _ h3).1 (okE b s W X _ c h4).1 (chk_form _ _ _ h4).1
        | (simp [notTuple] at h0; done)
    · cases h
  | .rev a, s, W, X, tg, e, c, h => by
    simp only [chkW] at h
    split at h
    · simp only [Bool.and_eq_true, decide_eq_true_eq] at h
      obtain ⟨h1, h2, h3⟩ := h
      subst h2
      exact w_rev hd c h1 (okE a s W X _ c h3).1 (chk_form _ _ _ h3).1
    · cases h
end
end
end Ev
end
section
set_option maxRecDepth 100000
set_option maxHeartbeats 8000000
/-! Ev, part 16: the rules of statements. -/
namespace Ev
open PySem PySem.Spec PyProof.Rows L2
def FinS (G : Pg) (W : WX) (m : List Addr) (H : Hp) (r : Os) (D : Ends) : Prop := match r with
  | .nx ρ' S' => ∀ m' H' σ', Ext m H m' H' → RE G m' H' ρ' σ' → RS G m' H' S' → D.nx σ' H'
  | .rt d S' => ∀ m' H' v, Ext m H m' H' → RS G m' H' S' → Rep G m' H' d v → D.rt v H'
  | .bk ρ' S' => ∀ m' H' σ', Ext m H m' H' → RE G m' H' ρ' σ' → RS G m' H' S' → D.bk σ' H'
  | .ct ρ' S' => ∀ m' H' σ', Ext m H m' H' → RE G m' H' ρ' σ' → RS G m' H' S' → D.ct σ' H'
  | .ex c l ρ' S' => ∀ m' H' dx σ', Ext m H m' H' → RE G m' H' ρ' σ' → RS G m' H' S' → XRep G m' H' c l dx → W (.ref (G.xa c)) (some dx) σ' H'
  | .bad => False
theorem FinS.ext {G : Pg} {W : WX} {m m' : List Addr} {H H' : Hp} {r : Os} {D : Ends} (x : Ext m H m' H') (h : FinS G W m H r D) : FinS G W m' H' r D := by
  cases r with
  | nx ρ S => exact fun m2 H2 σ x2 => h m2 H2 σ (x.trans x2)
  | rt d S => exact fun m2 H2 v x2 => h m2 H2 v (x.trans x2)
  | bk ρ S => exact fun m2 H2 σ x2 => h m2 H2 σ (x.trans x2)
  | ct ρ S => exact fun m2 H2 σ x2 => h m2 H2 σ (x.trans x2)
  | ex c l ρ S => exact fun m2 H2 dx σ x2 => h m2 H2 dx σ (x.trans x2)
  | bad => exact h
def tS (G : Pg) (W : WX) (ex : Fr → Store → Os) : TS := fun D σ H => ∃ m ρ S, RE G m H ρ σ ∧ RS G m H S ∧ FinS G W m H (ex ρ S) D
theorem tS.go {G : Pg} {W : WX} {σ : L2.St} {m : List Addr} {H : Hp} {S : Store} {ρ ρ0 : Fr} {α β : Type} {R : List Addr → Hp → α → β → Prop} {ev : Fr → Store → Rs α} {k : α → Store → Os} {t : Tag k} {D : Ends} {Q' : β → Hp → Prop} (re : RE G m H ρ σ) (re0 : RE G m H ρ0 σ) (rs : RS G m H S)
    (h : FinS G W m H ((ev ρ S).os ρ0 k t) D) (q : ∀ a S' m' H' v, ev ρ S = .ok a S' → Ext m H m' H' → RE G m' H' ρ σ → RE G m' H' ρ0 σ → RS G m' H' S' → R m' H' a v → FinS G W m' H' (k a S') D → Q' v H') : tX G W R ev σ H Q' :=
  ⟨m, ρ, S, re, rs, by
    cases e : ev ρ S with
    | ok a S' =>
      rw [e] at h
      intro m' H' v x rs' r
      exact q a S' m' H' v e x (re.mono x) (re0.mono x) rs' r (FinS.ext x h)
    | ex c l S' =>
      rw [e] at h
      exact fun m' H' dx x rs' xr => h m' H' dx σ x (re0.mono x) rs' xr
    | bad => rw [e] at h; exact h⟩
structure CtxS (G : Pg) (n : Nat) (X : Cx) (s : Sx) (W : WX) : Prop where
  c : Ctx G n X s W
  po : PassesOwn (model X.prog X.w) X.A X.env X.xe
  stk : X.stack = X.env :: X.outer
  fr : X.env.frame = some X.env.locals
  kd : s.sc.kind = .function
theorem CtxS.tr {G : Pg} {n : Nat} {X : Cx} {s : Sx} {W W1 : WX} (c : CtxS G n X s W) {pn : List (Addr × Obj)} {xe : Value → Shared → Prop} (tk : Takes (X.tr pn xe) W1) (po : PassesOwn (model X.prog X.w) X.A X.env xe) : CtxS G n (X.tr pn xe) s W1 :=
  ⟨⟨c.c.prog, c.c.w, c.c.K, c.c.mg, c.c.base, c.c.N, c.c.nd, c.c.sc, c.c.fn, c.c.calm, tk, c.c.room, c.c.lv, c.c.lv1⟩, po, c.stk, c.fr, c.kd⟩
section
variable {X : Cx}
theorem ps_imp {st : Stmt} {t t' : TS} (h : PS X st t) (i : ∀ D σ H, t' D σ H → t D σ H) : PS X st t' := ⟨fun pins s σ H D I q => h.run pins s σ H D I (i D σ H q)⟩
theorem pss_imp {st : List Stmt} {t t' : TS} (h : PSs X st t) (i : ∀ D σ H, t' D σ H → t D σ H) : PSs X st t' := ⟨fun pins s σ H D I q => h.run pins s σ H D I (i D σ H q)⟩
end
section
variable {G : Pg} {n : Nat} {X : Cx} {s : Sx} {W : WX} {C : Cs} {e x y z : Expr} {p pos apos : Pos} {a b : Ex} {es : List Expr} {l l2 : Exs}
theorem s_nil : PSs X [] (tS G W (exSs C .nil)) := pss_imp pss_nil fun D σ H ⟨m, ρ, S, re, rs, q⟩ => by
  simp only [exSs] at q
  exact q m H σ Ext.refl re rs
theorem s_cons {st : Stmt} {sts : List Stmt} {a : Ev.St} {b : Sts} (h1 : PS X st (tS G W (exS C a))) (h2 : PSs X sts (tS G W (exSs C b))) : PSs X (st :: sts) (tS G W (exSs C (.cons a b))) :=
  pss_imp (pss_cons h1 h2) fun D σ H ⟨m, ρ, S, re, rs, q⟩ => by
    simp only [exSs] at q
    refine ⟨m, ρ, S, re, rs, ?_⟩
    cases e : exS C a ρ S with
    | nx ρ1 S1 =>
      rw [e] at q
      exact fun m' H' σ' x re' rs' => ⟨m', ρ1, S1, re', rs', FinS.ext x q⟩
    | rt d S1 => rw [e] at q; exact q
    | bk ρ1 S1 => rw [e] at q; exact q
    | ct ρ1 S1 => rw [e] at q; exact q
    | ex c l ρ1 S1 => rw [e] at q; exact q
    | bad => rw [e] at q; exact q
/-- is a comprehension's value dropped for a store? -/
theorem sw_none {e : Expr} {l : Nat} {t : Option Expr} {env : Env} (h : notComp e = true) : swapsWith e t l env = pure false := by
  cases e <;> first | rfl | (simp [notComp] at h)
theorem sw_other {e t : Expr} {l : Nat} {env : Env} (h : ∀ x p, t ≠ .Name x p) : swapsWith e (some t) l env = pure false := by
  cases e <;> first
    | rfl
    | (cases t <;> first | rfl | exact absurd rfl (h _ _))
theorem sw_sole {e t : Expr} {l : Nat} {env : Env} (h : ∀ x p, t ≠ .Name x p) : swapsWithSole [t] e l env = pure false := by
  show swapsWith e (some t) l env = pure false
  exact sw_other h
theorem set_tree {o i : Expr} {p2 : Pos} {env : Env} (h : notSlice i = true) (v : Value) : assign (.Subscript o i p2) env v = (do
    let ov ← holding [v] (eval o env)
    let iv ← holding [v, ov] (eval i env)
    standAt p2
    holding [v, ov, iv] (setItem ov iv v)
    release [v, ov, iv] []) := by
  cases i <;> first | rfl | (simp [notSlice] at h)
theorem s_ex (ha : PE X x (tE G W (evE C a))) (hn : notComp x = true) : PS X (.Expr x pos) (tS G W (exS C (.ex a))) :=
  ps_imp (ps_expr ha (sw_none hn)) fun D σ H ⟨m, ρ, S, re, rs, q⟩ => by
    simp only [exS] at q
    exact tS.go re re rs q fun d S1 m1 H1 v1 _ x1 re1 _ rs1 r1 q1 => q1 m1 H1 σ Ext.refl re1 rs1
theorem s_ret (ha : PE X x (tE G W (evE C a))) : PS X (.Return (some x) pos) (tS G W (exS C (.ret a))) :=
  ps_imp (ps_ret ha) fun D σ H ⟨m, ρ, S, re, rs, q⟩ => by
    simp only [exS] at q
    exact tS.go re re rs q fun d S1 m1 H1 v1 _ x1 re1 _ rs1 r1 q1 => q1 m1 H1 v1 Ext.refl rs1 r1
theorem s_retN : PS X (.Return none pos) (tS G W (exS C .retN)) :=
  ps_imp ps_retN fun D σ H ⟨m, ρ, S, re, rs, q⟩ => by
    simp only [exS] at q
    exact q m H _ Ext.refl rs rep_non
theorem s_pas : PS X (.Pass pos) (tS G W (exS C .pas)) :=
  ps_imp ps_pass fun D σ H ⟨m, ρ, S, re, rs, q⟩ => by
    simp only [exS] at q
    exact q m H σ Ext.refl re rs
theorem s_brk : PS X (.Break pos) (tS G W (exS C .brk)) :=
  ps_imp ps_break fun D σ H ⟨m, ρ, S, re, rs, q⟩ => by
    simp only [exS] at q
    exact q m H σ Ext.refl re rs
theorem s_cnt : PS X (.Continue pos) (tS G W (exS C .cnt)) :=
  ps_imp ps_continue fun D σ H ⟨m, ρ, S, re, rs, q⟩ => by
    simp only [exS] at q
    exact q m H σ Ext.refl re rs
theorem s_if {c0 : Ex} {A B : Sts} {p q : List Stmt} (hc : PT X x (tT G W (evT C c0))) (ha : PSs X p (tS G W (exSs C A))) (hb : PSs X q (tS G W (exSs C B))) : PS X (.If x p q pos) (tS G W (exS C (.ife c0 A B))) :=
  ps_imp (ps_if hc ha hb) fun D σ H ⟨m, ρ, S, re, rs, q⟩ => by
    simp only [exS] at q
    refine tS.go re re rs q fun k S1 m1 H1 k1 _ x1 re1 _ rs1 r1 q1 => ?_
    have e : k = k1 := r1
    subst e
    cases k with
    | true => exact ⟨m1, ρ, S1, re1, rs1, q1⟩
    | false => exact ⟨m1, ρ, S1, re1, rs1, q1⟩
theorem g_name {i : Nat} {D : Ends} {σ : L2.St} {m : List Addr} {H : Hp} {ρ : Fr} {S : Store} {d : Ev.D} {v : V} (re : RE G m H ρ σ) (rs : RS G m H S) (r : Rep G m H d v) (q : FinS G W m H (.nx (setS ρ i d) S) D) : gName i v σ H D.nx :=
  q m H _ Ext.refl (re.set r) rs
theorem s_asg (c : CtxS G n X s W) {i : Nat} {nm : Str} {px : Pos} (ha : PE X x (tE G W (evE C a))) (hp : putB s i nm = true) (hs : swapsWith x (some (.Name nm px)) pos.line X.env = pure false) : PS X (.Assign [.Name nm px] x pos) (tS G W (exS C (.asg i a))) := by
  obtain ⟨p1, p2, p3⟩ := c.c.put hp
  refine ps_imp (ps_set c.c.nN p1 p2 ha hs p3) fun D σ H ⟨m, ρ, S, re, rs, q⟩ => ?_
  simp only [exS] at q
  exact tS.go re re rs q fun d S1 m1 H1 v1 _ x1 re1 _ rs1 r1 q1 => g_name re1 rs1 r1 q1
theorem s_asgT (c : CtxS G n X s W) {is : List Nat} {ts : List Expr} {k : Nat} {pt : Pos} (ha : PE X x (tE G W (evE C a))) (hp : tgsB s is ts = true) (hw : swappedStores [.Tuple ts k pt] x X.env = pure none) : PS X (.Assign [.Tuple ts k pt] x pos) (tS G W (exS C (.asgT is a))) := by
  have pg := r_tg (tg := .Tuple ts k pt) c.c (t := .tp is) (by simp only [tgB]; exact hp)
  refine ps_imp (ps_asg ha pg (sw_sole (by intro _ _ h; cases h)) hw rfl) fun D σ H ⟨m, ρ, S, re, rs, q⟩ => ?_
  simp only [exS] at q
  refine tS.go re re rs q fun d S1 m1 H1 v1 _ x1 re1 _ rs1 r1 q1 => ?_
  split at q1
  · rename_i ρ1 e1
    exact ⟨m1, ρ, S1, d, ρ1, re1, rs1, r1, e1, fun σ' re' _ => q1 m1 H1 σ' Ext.refl re' rs1⟩
  · exact q1.elim
theorem s_asgI (c : CtxS G n X s W) {o i0 : Ex} {p2 : Pos} (ho : PE X y (tE G W (evE C o))) (hi : PE X z (tE G W (evE C i0))) (ha : PE X x (tE G W (evE C a))) (hz : notSlice z = true) : PS X (.Assign [.Subscript y z p2] x pos) (tS G W (exS C (.asgI o i0 a))) :=
  ps_imp (ps_asg ha (pg_sub ho hi (set_cell (G := G)) (set_tree hz)) (sw_sole (by intro _ _ h; cases h)) rfl rfl) fun D σ H ⟨m, ρ, S, re, rs, q⟩ => by
    simp only [exS] at q
    refine tS.go re re rs q fun d S1 m1 H1 v1 _ x1 re1 _ rs1 r1 q1 => ?_
    refine tS.go re1 re1 rs1 q1 fun d2 S2 m2 H2 v2 _ x2 re2 _ rs2 r2 q2 => ?_
    refine tS.go re2 re2 rs2 q2 fun d3 S3 m3 H3 v3 _ x3 re3 _ rs3 r3 q3 => ?_
    split at q3
    · rename_i S4 e4
      exact ⟨m3, S3, d2, d3, d, S4, rs3, Rep.mono x3 _ _ r2, r3, Rep.mono (x2.trans x3) _ _ r1, e4, fun H' x' rs' => q3 m3 H' σ x' (re3.mono x') rs'⟩
    · exact q3.elim
/-- xs[i] as it is read ahead of xs[i] += e -/
theorem get_cell : PGet X (fun o i H Q => ∃ p xs j v, o = .ref p ∧ i = .int j ∧ SqL X.K H p xs ∧ atI xs j = some v ∧ Q v H) := by
  intro pins s σ H o i ov iv Q I ro ri h
  obtain ⟨p, xs, j, z, rfl, rfl, hq, he, q⟩ := h
  cases ro
  obtain ⟨t, rfl⟩ := ri
  obtain ⟨its, r, pl, hz⟩ := I.list hq
  obtain ⟨k, h1, h2, h3, h4, h5⟩ := atI_get he
  obtain ⟨w, ew, rw'⟩ := r.get h2
  have hl := r.length
  have hn := line63
  have fin : EP X pins σ Q w s := ⟨z, H, I, rw', q⟩
  by_cases h0 : 0 ≤ j
  · have hj : j.toNat = k := by
      rw [seqIndex_of h0 h5] at h1
      exact Option.some.inj h1
    exact wpAny_getItem_list pl.isList h0 (by omega) (by rw [hj]; simpa using ew) fin
  · have hj : (j + (its.toArray.size : Int)).toNat = k := by
      rw [seqIndex_neg (by omega) h4] at h1
      rw [List.size_toArray, ← hl]
      exact Option.some.inj h1
    exact wpAny_getItem_list_neg pl.isList (by omega) (by rw [List.size_toArray] <;> omega) (by omega) (by rw [hj]; simpa using ew) fin
theorem refIx_at {d e : Ev.D} {z : Ev.D} {m : List Addr} {H : Hp} {S : Store} {v u : V} (rs : RS G m H S) (rd : Rep G m H d v) (re : Rep G m H e u) (h : refIx d e S = some z) : ∃ p xs j w, v = .ref p ∧ u = .int j ∧ Rd H p (.lst xs) ∧ atI xs j = some w ∧ Rep G m H z w := by
  unfold refIx at h
  split at h
  · rename_i n
    split at h
    · rename_i l e1
      split at h
      · rename_i i
        split at h
        · rename_i k hk
          obtain ⟨p, vs, rfl, hp, r⟩ := lstOf_sq (l := l) rs rd (by unfold lstOf; simp only [e1])
          obtain ⟨w, hw, rw'⟩ := r.get h
          refine ⟨p, vs, i, w, rfl, re.int_inv, hp, ?_, rw'⟩
          unfold atI
          rw [← ixN_eq, ← r.length, hk]
          exact hw
        · cases h
      · cases h
    · cases h
  · cases h
theorem augV_at {sb : Bool} {x y z : Ev.D} (h : augV sb x y = some z) : ∃ i j : Int, x = .int i ∧ y = .int j ∧ z = .int (if sb then i - j else i + j) := by
  unfold augV at h
  split at h
  · cases h
    exact ⟨_, _, rfl, rfl, rfl⟩
  · cases h
theorem ip_sb {sb : Bool} {op : Operator} (h : augB sb op = true) : PIp X op (ipI fun i j => if sb then i - j else i + j) := by
  unfold augB at h
  split at h
  · exact ip_add
  · exact ip_sub
  · cases h
theorem s_augN (c : CtxS G n X s W) {i : Nat} {nm : Str} {px : Pos} {sb : Bool} {op : Operator} (ha : PE X x (tE G W (evE C a))) (hp : putB s i nm = true) (ho : augB sb op = true) : PS X (.AugAssign (.Name nm px) op x pos) (tS G W (exS C (.augN i sb a))) := by
  obtain ⟨p1, p2, p3⟩ := c.c.put hp
  refine ps_imp (ps_aug c.c.nN p1 p2 ha (ip_sb ho) p3) fun D σ H ⟨m, ρ, S, re, rs, q⟩ => ?_
  simp only [exS] at q
  cases e : valS ρ i with
  | none => rw [e] at q; exact q.elim
  | some d =>
    rw [e] at q
    have e1 : ρ[i]? = some (some d) := by
      unfold valS at e
      split at e
      · rename_i h
        cases e
        exact h
      · cases e
    obtain ⟨v, hv, rv⟩ := re.at_ i d e1
    replace q : FinS G W m H ((evE C a ρ S).os ρ (fun y S1 => match augV sb d y with
      | some z => .nx (setS ρ i z) S1
      | none => .bad)) D := q
    refine ⟨v, hv, tS.go (ρ0 := ρ) re re rs q fun y S1 m1 H1 v1 _ x1 re1 _ rs1 r1 q1 => ?_⟩
    split at q1
    · rename_i z hz
      obtain ⟨i1, j1, rfl, rfl, rfl⟩ := augV_at hz
      exact ⟨i1, j1, rv.int_inv, r1.int_inv, g_name re1 rs1 rep_int q1⟩
    · exact q1.elim
theorem aug_tree {i : Expr} (h : notSlice i = true) (ov iv new : Value) : augStore i ov iv new = (do holding [new, ov, iv] (setItem ov iv new); release [new, ov, iv] []; pure .next) := by
  cases i <;> first | rfl | (simp [notSlice] at h)
theorem s_augI (c : CtxS G n X s W) {o i0 : Ex} {p2 : Pos} {sb : Bool} {op : Operator} (ho : PE X y (tE G W (evE C o))) (hi : PE X z (tE G W (evE C i0))) (ha : PE X x (tE G W (evE C a))) (hz : notSlice z = true) (hop : augB sb op = true) : PS X (.AugAssign (.Subscript y z p2) op x pos) (tS G W (exS C (.augI o i0 sb a))) := by
  refine ps_imp (ps_augS ho hi get_cell ha (ip_sb hop) (set_cell (G := G)) (aug_tree hz)) fun D σ H ⟨m, ρ, S, re, rs, q⟩ => ?_
  simp only [exS] at q
  refine tS.go re re rs q fun d S1 m1 H1 v1 _ x1 re1 _ rs1 r1 q1 => ?_
  refine tS.go re1 re1 rs1 q1 fun d2 S2 m2 H2 v2 _ x2 re2 _ rs2 r2 q2 => ?_
  have r1' := Rep.mono x2 _ _ r1
  cases e : refIx d d2 S2 with
  | none => rw [e] at q2; exact q2.elim
  | some w0 =>
    rw [e] at q2
    replace q2 : FinS G W m2 H2 ((evE C a ρ S2).os ρ (fun y S4 => match augV sb w0 y with
      | some z => match setI d d2 z S4 with
        | some S5 => .nx ρ S5
        | none => .bad
      | none => .bad)) D := q2
    obtain ⟨p, xs, j, w, rfl, rfl, hp, hw, rw'⟩ := refIx_at rs2 r1' r2 e
    refine ⟨p, xs, j, w, rfl, rfl, sq_of hp, hw, ?_⟩
    refine tS.go (ρ0 := ρ) re2 re2 rs2 q2 fun d3 S3 m3 H3 v3 _ x3 re3 _ rs3 r3 q3 => ?_
    split at q3
    · rename_i zz hzz
      obtain ⟨i1, j1, rfl, rfl, rfl⟩ := augV_at hzz
      refine ⟨i1, j1, rw'.int_inv, r3.int_inv, ?_⟩
      split at q3
      · rename_i S4 e4
        exact ⟨m3, S3, d, d2, _, S4, rs3, Rep.mono x3 _ _ r1', Rep.mono x3 _ _ r2, rep_int, e4, fun H' x' rs' => q3 m3 H' σ x' (re3.mono x') rs'⟩
      · exact q3.elim
    · exact q3.elim
theorem s_asg2 (c : CtxS G n X s W) {i j : Nat} {nm ny : Str} {px py : Pos} (ha : PE X x (tE G W (evE C a))) (hp : putB s i nm = true) (hq : putB s j ny = true) (hw : swappedStores [.Name nm px, .Name ny py] x X.env = pure none) : PS X (.Assign [.Name nm px, .Name ny py] x pos) (tS G W (exS C (.asg2 i j a))) := by
  obtain ⟨p1, p2, p3⟩ := c.c.put hp
  obtain ⟨p4, p5, p6⟩ := c.c.put hq
  refine ps_imp (ps_asg2 ha (pg_name c.c.nN p1 p2 p3) (pg_name c.c.nN p4 p5 p6) rfl hw) fun D σ H ⟨m, ρ, S, re, rs, q⟩ => ?_
  simp only [exS] at q
  exact tS.go re re rs q fun d S1 m1 H1 v1 _ x1 re1 _ rs1 r1 q1 => q1 m1 H1 _ Ext.refl ((re1.set r1).set r1) rs1
theorem s_whl (c : CtxS G n X s W) {c0 : Ex} {B : Sts} {q : List Stmt} (hc : PT X x (tT G W (evT C c0))) (hb : PSs X q (tS G W (exSs C B))) : PS X (.While x q [] pos) (tS G W (exS C (.whl c0 B))) := by
  refine ps_imp (ps_while c.po hc hb) fun D σ H ⟨m, ρ, S, re, rs, q⟩ => ?_
  simp only [exS, whl] at q
  split at q
  · rename_i h
    have hs := h.choose_spec.choose_spec
    generalize h.choose_spec.choose = r at q hs
    generalize h.choose = k at hs
    refine ⟨fun j σ' H' => ∃ m' ρ' S', RE G m' H' ρ' σ' ∧ RS G m' H' S' ∧ Ext m H m' H' ∧ whlN (fun ρ S => evT C c0 ρ S) (fun ρ S => exSs C B ρ S) j ρ' S' = some r, ⟨k, m, ρ, S, re, rs, Ext.refl, hs⟩, ?_⟩
    rintro j σ1 H1 ⟨m1, ρ1, S1, re1, rs1, x1, e⟩
    cases j with
    | zero => simp only [whlN] at e; cases e
    | succ j =>
      simp only [whlN] at e
      refine ⟨m1, ρ1, S1, re1, rs1, ?_⟩
      cases ec : evT C c0 ρ1 S1 with
      | bad =>
        rw [ec] at e
        cases e
        exact q.elim
      | ex xc l S2 =>
        rw [ec] at e
        cases e
        exact fun m' H' dx x' rs' xr => q m' H' dx σ1 (x1.trans x') (re1.mono x') rs' xr
      | ok kb S2 =>
        rw [ec] at e
        intro m2 H2 k2 x2 rs2 rk
        have ek : kb = k2 := rk
        subst ek
        cases kb with
        | false =>
          cases e
          exact q m2 H2 σ1 (x1.trans x2) (re1.mono x2) rs2
        | true =>
          simp only [if_true] at e ⊢
          refine ⟨fun σ' H' => ∃ m' ρ' S', RE G m' H' ρ' σ' ∧ RS G m' H' S' ∧ Ext m H m' H' ∧ whlN (fun ρ S => evT C c0 ρ S) (fun ρ S => exSs C B ρ S) j ρ' S' = some r, fun σ' H' w => ⟨j, Nat.lt_succ_self _, w⟩, ?_⟩
          refine ⟨m2, ρ1, S2, re1.mono x2, rs2, ?_⟩
          cases eb : exSs C B ρ1 S2 with
          | nx ρ3 S3 =>
            rw [eb] at e
            exact fun m' H' σ' x' re' rs' => ⟨m', ρ3, S3, re', rs', (x1.trans x2).trans x', e⟩
          | ct ρ3 S3 =>
            rw [eb] at e
            exact fun m' H' σ' x' re' rs' => ⟨m', ρ3, S3, re', rs', (x1.trans x2).trans x', e⟩
          | bk ρ3 S3 =>
            rw [eb] at e
            cases e
            exact fun m' H' σ' x' re' rs' => q m' H' σ' ((x1.trans x2).trans x') re' rs'
          | rt d S3 =>
            rw [eb] at e
            cases e
            exact fun m' H' v x' rs' r' => q m' H' v ((x1.trans x2).trans x') rs' r'
          | ex xc l ρ3 S3 =>
            rw [eb] at e
            cases e
            exact fun m' H' dx σ' x' re' rs' xr => q m' H' dx σ' ((x1.trans x2).trans x') re' rs' xr
          | bad =>
            rw [eb] at e
            cases e
            exact q.elim
  · exact q.elim
theorem for_fin {t : Tg} {B : Sts} {p : List Ev.D × Gd} {J : It} {m1 : List Addr} {H1 : Hp} {S1 : Store} {ρ : Fr} {σ : L2.St} {D : Ends} (re1 : RE G m1 H1 ρ σ) (rs1 : RS G m1 H1 S1) (ry : RY G m1 H1 p J) (q1 : FinS G W m1 H1 (forL t (fun ρ S => exSs C B ρ S) p.2 p.1 ρ S1) D) :
    ∃ Wt : Nat → Nat → L2.St → Hp → Prop, (∃ k, Wt 0 k σ H1) ∧ ∀ i k σ H, Wt i k σ H →
      (J.stop i H ∧ D.nx σ H) ∨ (J.go i H ∧ ∃ N : L2.St → Hp → Prop, (∀ σ' H', N σ' H' → ∃ k', k' < k ∧ Wt (i + 1) k' σ' H') ∧ ∀ x H', J.yld i H x H' → gT G t x σ H' fun σ2 H2 => tS G W (exSs C B) { D with nx := N, ct := N, bk := D.nx } σ2 H2) := by
  refine ⟨fun i j σ' H' => ∃ m' ρ' S', j = p.1.length - i ∧ i ≤ p.1.length ∧ RE G m' H' ρ' σ' ∧ RS G m' H' S' ∧ Ext m1 H1 m' H' ∧ FinS G W m' H' (forL t (fun ρ S => exSs C B ρ S) p.2 (p.1.drop i) ρ' S') D, ⟨_, m1, ρ, S1, rfl, Nat.zero_le _, re1, rs1, Ext.refl, q1⟩, ?_⟩
  rintro i j σ2 H2 ⟨m2, ρ2, S2, rfl, hi, re2, rs2, x2, f⟩
  by_cases hlt : i < p.1.length
  · have hd : p.1.drop i = p.1[i] :: p.1.drop (i + 1) := List.drop_eq_getElem_cons hlt
    rw [hd] at f
    simp only [forL] at f
    split at f
    · rename_i hg
      obtain ⟨go, yl⟩ := (ry m2 H2 S2 x2 rs2 hg i).1 p.1[i] (List.getElem?_eq_getElem hlt)
      split at f
      · rename_i ρ3 et
        refine .inr ⟨go, fun σ' H' => ∃ m' ρ' S', RE G m' H' ρ' σ' ∧ RS G m' H' S' ∧ Ext m1 H1 m' H' ∧ FinS G W m' H' (forL t (fun ρ S => exSs C B ρ S) p.2 (p.1.drop (i + 1)) ρ' S') D, ?_, ?_⟩
        · rintro σ' H' ⟨m', ρ', S', re', rs', x', f'⟩
          exact ⟨p.1.length - (i + 1), by omega, m', ρ', S', rfl, hlt, re', rs', x', f'⟩
        · intro v H3 hy
          obtain ⟨x3, rs3, r3⟩ := yl v H3 hy
          refine ⟨m2, ρ2, S2, p.1[i], ρ3, re2.mono x3, rs3, r3, et, fun σ4 re4 _ => ⟨m2, ρ3, S2, re4, rs3, ?_⟩⟩
          cases eb : exSs C B ρ3 S2 with
          | nx ρ5 S5 =>
            rw [eb] at f
            exact fun m' H' σ' x' re' rs' => ⟨m', ρ5, S5, re', rs', x2.trans (x3.trans x'), FinS.ext (x3.trans x') f⟩
          | ct ρ5 S5 =>
            rw [eb] at f
            exact fun m' H' σ' x' re' rs' => ⟨m', ρ5, S5, re', rs', x2.trans (x3.trans x'), FinS.ext (x3.trans x') f⟩
          | bk ρ5 S5 =>
            rw [eb] at f
            exact fun m' H' σ' x' re' rs' => f m' H' σ' (x3.trans x') re' rs'
          | rt d S5 =>
            rw [eb] at f
            exact fun m' H' v x' rs' r' => f m' H' v (x3.trans x') rs' r'
          | ex xc l ρ5 S5 =>
            rw [eb] at f
            exact fun m' H' dx σ' x' re' rs' xr => f m' H' dx σ' (x3.trans x') re' rs' xr
          | bad =>
            rw [eb] at f
            exact f.elim
      · exact f.elim
    · exact f.elim
  · have e1 : i = p.1.length := by omega
    have hd : p.1.drop i = [] := List.drop_eq_nil_of_le (by omega)
    rw [hd] at f
    simp only [forL] at f
    split at f
    · rename_i hg
      exact .inl ⟨(ry m2 H2 S2 x2 rs2 hg i).2 e1.symm, f m2 H2 σ2 Ext.refl re2 rs2⟩
    · exact f.elim
theorem s_for (c : CtxS G n X s W) {t : Tg} {it : Iter} {B : Sts} {q : List Stmt} {tgE : Expr} (hw : PI X tgE x (tW G W (evW C it))) (hns : noSet x = true) (hp : tgB s t tgE = true) (hb : PSs X q (tS G W (exSs C B))) : PS X (.For tgE x q [] pos) (tS G W (exS C (.forr t it B))) := by
  refine ps_imp (ps_for c.po c.c.calm hw (r_tg c.c hp) hb (folded_of hns)) fun D σ H ⟨m, ρ, S, re, rs, q⟩ => ?_
  simp only [exS] at q
  refine tS.go re re rs q fun p S1 m1 H1 J _ x1 re1 _ rs1 ry q1 => ?_
  exact for_fin re1 rs1 ry q1
end
end Ev
end
section
set_option maxRecDepth 100000
set_option maxHeartbeats 8000000
/-! Ev, part 17: more rules of statements; exceptions. -/
namespace Ev
open PySem PySem.Spec PyProof.Rows L2
section
variable {G : Pg} {n : Nat} {X : Cx} {s : Sx} {W : WX} {C : Cs} {e x y z : Expr} {p pos apos : Pos} {a b : Ex} {es : List Expr} {l l2 : Exs}
theorem comp_inv {M : Nm} {v : Expr} (h : chkE M a s v = true) (hn : ¬ notComp v = true) : (∃ m own tg it c e0 x t i ifs sc p, a = .lc m own tg it c e0 ∧ v = .ListComp x [⟨t, i, ifs, 0⟩] sc p) ∨ ∃ m own tg it c tg2 it2 c2 e0 x t i ifs t2 i2 ifs2 sc p, a = .lc2 m own tg it c tg2 it2 c2 e0 ∧ v = .ListComp x [⟨t, i, ifs, 0⟩, ⟨t2, i2, ifs2, 0⟩] sc p := by
  cases a <;> (unfold chkE at h; split at h) <;> first
    | (cases h; done)
    | exact absurd rfl hn
    | exact .inl ⟨_, _, _, _, _, _, _, _, _, _, _, _, rfl, rfl⟩
    | exact .inr ⟨_, _, _, _, _, _, _, _, _, _, _, _, _, _, _, _, _, _, rfl, rfl⟩
theorem s_asgLc (hd : Hd G) (np : NpOk G) (hC : C = csOf G.T n) (c : CtxS G n X s W) {i : Nat} {nm : Str} {px : Pos} (h : chkE G.M a s x = true) (hn : ¬ notComp x = true) (hp : putB s i nm = true) : PS X (.Assign [.Name nm px] x pos) (tS G W (exS C (.asg i a))) := by
  have ha := (okE hd np hC a s W X x c.c h).1
  obtain ⟨p1, p2, p3⟩ := c.c.put hp
  rcases comp_inv h hn with ⟨m, own, tg, it, cn, e0, el, t, it0, ifs, sc, lp, rfl, rfl⟩ | ⟨m, own, tg, it, cn, tg2, it2, cn2, e0, el, t, it0, ifs, t2, it20, ifs2, sc, lp, rfl, rfl⟩
  · by_cases hb : (X.env.blockKind == .function && X.env.kindOf nm == some .local && px.line == lp.line && !(sc.names.any fun (n, k) => n == nm && (k == .local || k == .cell))) = true
    · have hsw : swapsWith (.ListComp el [⟨t, it0, ifs, 0⟩] sc lp) (some (.Name nm px)) pos.line X.env = pure true := by
        unfold swapsWith
        simp only [Expr.pos]
        rw [hb]
      simp only [Bool.and_eq_true] at hb
      have hl : X.env.scope.names.lookup nm = some .local := by
        have := hb.1.1.2
        simp only [beq_iff_eq] at this
        exact this
      have h' := h
      simp only [chkE, Bool.and_eq_true] at h'
      obtain ⟨h1, h2, h3, h4, h5, h6⟩ := h'
      have hs : ∀ i ∈ idxs tg, i ∈ own := by
        intro i hi
        cases tg with
        | nm j =>
          simp only [idxs, List.mem_singleton] at hi
          subst hi
          exact List.contains_iff_mem.mp h3
        | tp js => exact List.contains_iff_mem.mp (List.all_eq_true.mp h3 i hi)
      have q0 := ps_setLc c.c.calm c.c.nN p1 hl hsw (okW hd np hC it s W X t it0 c.c h4) (blkOk_by (by rw [c.c.N, c.c.sc]; exact h1)) (fun st H Ca cl fp => r_tg (blk_ctx c.c st H Ca cl fp) h2) (fun st H Ca cl fp => okC hd np hC cn _ _ _ _ (blk_ctx c.c st H Ca cl fp) h5) (fun st H Ca cl fp => (okE hd np hC e0 _ _ _ _ (blk_ctx c.c st H Ca cl fp) h6).1) (folded_of (chkW_set _ _ _ _ h4))
      rw [own_map] at q0
      refine ps_imp q0 fun D σ H ⟨m, ρ, S, re, rs, q⟩ => ?_
      simp only [exS] at q
      exact lc_read hs σ H _ (tS.go re re rs q fun d S1 m1 H1 v1 _ x1 re1 _ rs1 r1 q1 => g_name re1 rs1 r1 q1)
    · refine s_asg c ha hp ?_
      unfold swapsWith
      simp only [Expr.pos]
      rw [Bool.not_eq_true] at hb
      rw [hb]
  · by_cases hb : (X.env.blockKind == .function && X.env.kindOf nm == some .local && px.line == lp.line && !(sc.names.any fun (n, k) => n == nm && (k == .local || k == .cell))) = true
    · have hsw : swapsWith (.ListComp el [⟨t, it0, ifs, 0⟩, ⟨t2, it20, ifs2, 0⟩] sc lp) (some (.Name nm px)) pos.line X.env = pure true := by
        unfold swapsWith
        simp only [Expr.pos]
        rw [hb]
      simp only [Bool.and_eq_true] at hb
      have hl : X.env.scope.names.lookup nm = some .local := by
        have := hb.1.1.2
        simp only [beq_iff_eq] at this
        exact this
      have h' := h
      simp only [chkE, Bool.and_eq_true] at h'
      obtain ⟨h1, h2, h3, h4, h5, h6, h7, h8, h9, h10⟩ := h'
      have hs : ∀ i ∈ idxs tg, i ∈ own := fun i hi => List.contains_iff_mem.mp (List.all_eq_true.mp h3 i (by rw [idxs_eq]; exact hi))
      have hs2 : ∀ i ∈ idxs tg2, i ∈ own := fun i hi => List.contains_iff_mem.mp (List.all_eq_true.mp h7 i (by rw [idxs_eq]; exact hi))
      have q0 := ps_setLc2 (vs1 := idxs tg2) c.c.calm c.c.nN p1 hl hsw (okW hd np hC it s W X t it0 c.c h4) (blkOk_by (by rw [c.c.N, c.c.sc]; exact h1)) (by rw [own_map]; exact hs2) (fun st H Ca cl fp => r_tg (blk_ctx c.c st H Ca cl fp) h2) (fun st H Ca cl fp => okC hd np hC cn _ _ _ _ (blk_ctx c.c st H Ca cl fp) h5) (fun st H Ca cl fp => okW hd np hC it2 _ _ _ _ _ (blk_ctx c.c st H Ca cl fp) h8) (fun st H Ca cl fp => r_tg (blk_ctx c.c st H Ca cl fp) h6) (fun st H Ca cl fp => okC hd np hC cn2 _ _ _ _ (blk_ctx c.c st H Ca cl fp) h9) (fun st H Ca cl fp => (okE hd np hC e0 _ _ _ _ (blk_ctx c.c st H Ca cl fp) h10).1) (folded_of (chkW_set _ _ _ _ h4)) (fun _ => folded_of (chkW_set _ _ _ _ h8))
      rw [own_map] at q0
      refine ps_imp q0 fun D σ H ⟨m, ρ, S, re, rs, q⟩ => ?_
      simp only [exS] at q
      exact lc2_read hs σ H _ (tS.go re re rs q fun d S1 m1 H1 v1 _ x1 re1 _ rs1 r1 q1 => g_name re1 rs1 r1 q1)
    · refine s_asg c ha hp ?_
      unfold swapsWith
      simp only [Expr.pos]
      rw [Bool.not_eq_true] at hb
      rw [hb]
/-! #### a, b = x, y -/
theorem swap_two {nx ny : Str} {px py pt : Pos} {kt k2 : Nat} {p2 : Pos} {v w : Expr} (hk : X.env.scope.kind = .function) (hsc : X.env.scope = s.sc) (h : swpB s nx ny px py [v, w] = true) : swappedStores [.Tuple [.Name nx px, .Name ny py] kt pt] (.Tuple [v, w] k2 p2) X.env = pure (some [nx, ny]) := by
  unfold swpB at h
  simp only [Bool.and_eq_true, Bool.not_eq_true'] at h
  obtain ⟨⟨⟨⟨⟨⟨h1, h2⟩, h3⟩, h4⟩, h5⟩, h6⟩, h7⟩ := h
  have hx : X.env.scope.names.lookup nx = some .local := by
    rw [hsc]
    split at h1
    · assumption
    · cases h1
  have hy : X.env.scope.names.lookup ny = some .local := by
    rw [hsc]
    split at h2
    · assumption
    · cases h2
  have kx : X.env.kindOf nx = some .local := hx
  have ky : X.env.kindOf ny = some .local := hy
  have hb : X.env.blockKind = .function := by unfold Env.blockKind; rw [hk]; rfl
  have e3 : (py.line == px.line) = true := by
    rw [beq_iff_eq] at h3 ⊢
    exact h3.symm
  have e4 : (ny == nx) = false := by
    rw [beq_eq_false_iff_ne] at h4 ⊢
    exact fun z => h4 z.symm
  unfold swappedStores
  simp only [hb, kx, ky, h5, h6, h7, Expr.pos, List.head?_cons, Option.map_some, Option.getD_some, List.filterMap_cons, List.filterMap_nil, e3, beq_self_eq_true, Bool.and_self, Bool.true_and, if_true, List.length_cons, List.length_nil, List.eraseDups_cons, List.filter_cons, e4, h4, List.filter_nil, List.eraseDups_nil]
  rw [if_neg (by decide), if_neg (fun z => by have z2 := h7.symm.trans z; cases z2)]
  have e5 : ([ny] : List Str).eraseDups = [ny] := by simp [List.eraseDups_cons]
  rw [if_neg (by
    rw [if_pos (by rfl), e5]
    simp), if_neg (by decide), if_neg (by decide)]
theorem s_swp (c : CtxS G n X s W) {i j : Nat} {nx ny : Str} {px py pt : Pos} {kt k2 : Nat} {p2 : Pos} {v w : Expr} (h : swpB s nx ny px py [v, w] = true) (hi : putB s i nx = true) (hj : putB s j ny = true) (hij : i ≠ j) (ha : PE X v (tE G W (evE C a))) (hv : noStar v = true) (hb : PE X w (tE G W (evE C b))) (hw : noStar w = true) :
    PS X (.Assign [.Tuple [.Name nx px, .Name ny py] kt pt] (.Tuple [v, w] k2 p2) pos) (tS G W (exS C (.swp i j a b))) := by
  obtain ⟨i1, i2, i3⟩ := c.c.put hi
  obtain ⟨j1, j2, j3⟩ := c.c.put hj
  have hk : X.env.scope.kind = .function := by rw [c.c.sc]; exact c.kd
  have loc : ∀ {z : Str}, (match s.sc.names.lookup z with
      | some .local => true
      | _ => false) = true → X.env.scope.names.lookup z = some .local := fun {z} hz => by
    rw [c.c.sc]
    split at hz
    · assumption
    · cases hz
  have h' := h
  unfold swpB at h'
  simp only [Bool.and_eq_true] at h'
  refine ps_imp (ps_par c.c.calm c.c.nN i1 j1 hij (loc h'.1.1.1.1.1.1) (loc h'.1.1.1.1.1.2) (pa_cons ha (pa_cons hb pa_nil (star_of hw)) (star_of hv)) (swap_two hk c.c.sc h) (sw_sole (by intro _ _ h; cases h))) fun D σ H ⟨m, ρ, S, re, rs, q⟩ => ?_
  simp only [exS] at q
  refine tS.go re re rs q fun d S1 m1 H1 v1 _ x1 re1 _ rs1 r1 q1 => ?_
  refine tS.go re1 re1 rs1 q1 fun d2 S2 m2 H2 v2 _ x2 re2 _ rs2 r2 q2 => ?_
  exact ⟨v1, v2, rfl, q2 m2 H2 _ Ext.refl ((re2.set (Rep.mono x2 _ _ r1)).set r2) rs2⟩
theorem no_swap {ts vs : List Expr} {kt k2 : Nat} {pt p2 : Pos} {env : Env} (h : vs.all (foldedForSure 8) = true ∨ (ts.length == 2 || ts.length == 3) = false) : swappedStores [.Tuple ts kt pt] (.Tuple vs k2 p2) env = pure none := by
  unfold swappedStores
  simp only []
  rcases h with h | h
  · simp only [h, if_true]
    repeat' split
    all_goals rfl
  · simp only [h, Bool.not_false, Bool.true_or, if_true]
theorem put_zip (hd : Hd G) {f : Nat} {m : List Addr} {H : Hp} {d : Ev.D} {y : V} (r : Rep G m H d y) : ∀ {fs : List (Nat × Ev.D)} {vs : List V}, RepL G m H (fs.map (·.2)) vs → ∃ us, putF (G.att f) y ((fs.map fun g => G.att g.1).zip vs) = ((putN f d fs).map fun g => G.att g.1).zip us ∧ RepL G m H ((putN f d fs).map (·.2)) us
  | [], vs, q => by
    simp only [List.map_nil, RepL] at q
    subst q
    exact ⟨[y], rfl, RepL.cons r RepL.nil⟩
  | (g, e) :: fs, vs, q => by
    simp only [List.map_cons, RepL] at q
    obtain ⟨v, us, rfl, q1, q2⟩ := q
    simp only [List.map_cons, List.zip_cons_cons, putF, putN]
    by_cases hg : g = f
    · subst hg
      rw [if_pos rfl, if_pos rfl]
      exact ⟨y :: us, rfl, RepL.cons r q2⟩
    · rw [if_neg hg, if_neg (fun z => hg (att_inj hd z))]
      obtain ⟨ws, e1, e2⟩ := put_zip hd r q2
      exact ⟨v :: ws, by rw [e1]; rfl, RepL.cons q1 e2⟩
theorem s_asgA (hd : Hd G) (c : CtxS G n X s W) (hT : C.T = G.T) {o : Ex} {f : Nat} {nm : Str} {p2 : Pos} (hn : G.M.atts[f]? = some nm) (ho : PE X y (tE G W (evE C o))) (ha : PE X x (tE G W (evE C a))) : PS X (.Assign [.Attribute y nm p2] x pos) (tS G W (exS C (.asgA o f a))) := by
  rw [← att_of hn]
  refine ps_imp (ps_fld ho ha (sw_other (by intro _ _ h; cases h))) fun D σ H ⟨m, ρ, S, re, rs, q⟩ => ?_
  simp only [exS] at q
  refine tS.go re re rs q fun d S1 m1 H1 v1 _ x1 re1 _ rs1 r1 q1 => ?_
  refine tS.go re1 re1 rs1 q1 fun d2 S2 m2 H2 v2 _ x2 re2 _ rs2 r2 q2 => ?_
  split at q2
  · rename_i i
    split at q2
    · rename_i k fs es
      split at q2
      · rename_i hk
        rw [hT] at hk
        obtain ⟨A, rfl, hA⟩ := r2.ref_inv
        obtain ⟨A', hA', dx, vs, hv, r⟩ := rs2.cel _ _ es
        rw [hA] at hA'; cases hA'
        obtain ⟨us, e1, e2⟩ := put_zip (f := f) hd (Rep.mono x2 _ _ r1) r
        have hl : fs.length = vs.length := by rw [← r.length, List.length_map]
        refine ⟨A, _, dx, _, rfl, hv, by rw [c.c.K]; exact (hd.cls k (cls_lt hk.2)).cls, by rw [c.c.K]; exact hd.na k f hk.2, by rw [List.length_zip, List.length_map, ← hl, Nat.min_self]; exact hk.1, ?_⟩
        rw [e1]
        have xw : Ext m2 H2 m2 (upd H2 A (.ins (G.ca k) dx (((putN f d fs).map fun g => G.att g.1).zip us))) := Ext.write (List.mem_of_getElem? hA) (NF.of hv fun _ _ z => nomatch z)
        exact q2 m2 _ σ xw (re2.mono xw) (rs2.write (c := .ins k (putN f d fs)) (NF.of hv fun _ _ z => nomatch z) hA ⟨dx, us, upd_same, RepL.mono xw _ _ e2⟩)
      · exact q2.elim
    · exact q2.elim
  · exact q2.elim
end
/-! #### exceptions -/
/-- what of the exceptions' classes is known -/
structure Xd (G : Pg) : Prop where
  mg : ∀ (c : Nat) (x : Str), G.M.exc[c]? = some x → G.mg x = some (.ref (G.xa c)) ∧ c < G.T.exc.length
  exm : ∀ c k, c < G.T.exc.length → k < G.T.exc.length → PySem.W.exmOne G.K (.ref (G.xa c)) (.ref (G.xa k)) = some ((ancOf G.T c).contains k)
  xf : ∀ c, c < G.T.exc.length → XfC G.K (G.xa c) ∧ ∀ f ∈ excF G.T c, PySem.W.findIn G.K (.ref (G.xa c)) (G.att f) = some none
/-- what an exception of one field is made of -/
def XR (G : Pg) (c : Nat) (vs : List V) (H1 : Hp) (Q : XK) : Prop := ∃ i y, excF G.T c = [i] ∧ vs = [y] ∧ ∀ dx, H1 dx = none → Q (.ref (G.xa c)) (some dx) (upd H1 dx (.xd [(G.att i, y)]))
/-- X(..) makes an exception whose field is the value -/
def XMk (G : Pg) : Prop := ∀ (n : Nat) (X : Cx) (s : Sx) (W : WX) (c : Nat) (nm : Str) (es : List Expr) (p pos : Pos) (t : TA), Ctx G n X s W → G.M.exc[c]? = some nm → gloB s nm = true → es.all noStar = true → PA X es t → (es = [] → ∀ σ H Q, t σ H Q → Q [] H) →
  PMk X (.Call (.Name nm p) es [] pos) (fun σ H Q => t σ H fun vs H1 => XR G c vs H1 Q)
section
variable {G : Pg} {n : Nat} {X : Cx} {s : Sx} {W : WX} {C : Cs} {e x y z : Expr} {p pos apos : Pos} {a b : Ex} {es : List Expr} {l l2 : Exs}
theorem s_rai (xm : XMk G) (xd : Xd G) (c : CtxS G n X s W) (hT : C.T = G.T) {k : Nat} {nm : Str} (hn : G.M.exc[k]? = some nm) (hg : gloB s nm = true) (hl : chkL G.M l s es = true) (ha : PA X es (tL G W (evL C l))) : PS X (.Raise (some (.Call (.Name nm p) es [] apos)) none pos) (tS G W (exS C (.rai k l))) := by
  have hlt := (xd.mg k nm hn).2
  have q0 := ps_raise (pos := pos) c.c.calm c.c.tk (xm n X s W k nm es p apos _ c.c hn hg (chkL_star _ _ _ hl) ha fun e σ H Q q => nil_of hl e q)
  refine ps_imp q0 fun D σ H ⟨m, ρ, S, re, rs, q⟩ => ?_
  simp only [exS] at q
  refine tS.go re re rs q fun ds S1 m1 H1 vs _ x1 re1 _ rs1 r1 q1 => ?_
  split at q1
  · rename_i hz
    rw [hT] at hz
    obtain ⟨d, rfl⟩ := List.length_eq_one_iff.mp hz.2
    obtain ⟨v, rfl, rv⟩ := one_inv r1
    obtain ⟨i, hi⟩ := List.length_eq_one_iff.mp (show (excF G.T k).length = 1 from hz.1.symm)
    refine ⟨i, v, hi, rfl, fun dx hdx => ?_⟩
    have xx : Ext m1 H1 m1 (upd H1 dx (.xd [(G.att i, v)])) := Ext.new hdx
    exact q1 m1 _ dx σ xx (re1.mono xx) (rs1.new hdx) ⟨[v], by rw [hi]; exact upd_same, RepL.mono xx _ _ r1, hz.1, hlt⟩
  · exact q1.elim
/-- the reading of an except suite's expression -/
def tH (G : Pg) (A : Addr) (cls : Value) (dd : Option Addr) (i : Option Nat) {α β : Type} (R : List Addr → Hp → α → β → Prop) (ev : Nat → List Ev.D → Fr → Store → Rs α) (σ : L2.St) (H : Hp) (Q : β → Hp → Prop) : Prop :=
  ∃ m ρ S k l dx, RE G m H ρ σ ∧ RS G m H S ∧ cls = .ref (G.xa k) ∧ dd = some dx ∧ XRep G m H k l dx ∧ (∀ j, i = some j → j < σ.length → σ[j]? = some (some (.ref A))) ∧ Fin G noW σ R m H (ev k l ρ S) fun _ _ _ H' v => Q v H'
theorem xrep_mono {m m' : List Addr} {H H' : Hp} {S0 : Store} {k : Nat} {l : List Ev.D} {dx : Addr} (rs : RS G m H S0) (x : Ext m H m' H') (h : XRep G m H k l dx) : XRep G m' H' k l dx := by
  obtain ⟨vs, h1, r, hl⟩ := h
  have hm : dx ∉ m := fun hm => by
    obtain ⟨n, hn, e⟩ := List.getElem_of_mem hm
    have hS : n < S0.length := by rw [← rs.len]; exact hn
    obtain ⟨p', hp', q⟩ := rs.cel n S0[n] (List.getElem?_eq_getElem hS)
    rw [List.getElem?_eq_getElem hn, e] at hp'
    cases hp'
    cases hc : S0[n] with
    | lst l =>
      rw [hc] at q
      obtain ⟨_, q, _⟩ := q
      rw [h1] at q; cases q
    | ins c fs =>
      rw [hc] at q
      obtain ⟨_, _, q, _⟩ := q
      rw [h1] at q; cases q
    | dct lk kvs =>
      rw [hc] at q
      obtain ⟨_, q, _⟩ := q
      cases lk with
      | true =>
        obtain ⟨o, q⟩ := q
        rw [h1] at q; cases q
      | false =>
        have q' : H dx = _ := q
        rw [h1] at q'; cases q'
  exact ⟨vs, (x.keep _ _ h1 hm).1, RepL.mono x _ _ r, hl⟩
theorem tH.go {A : Addr} {cls : Value} {dd : Option Addr} {i : Option Nat} {α β γ δ : Type} {R : List Addr → Hp → α → β → Prop} {R' : List Addr → Hp → γ → δ → Prop} {ev : Nat → List Ev.D → Fr → Store → Rs α} {kk : α → Store → Rs γ} {t : Tag kk} {Q : δ → Hp → Prop} {Q' : β → Hp → Prop} {σ : L2.St} {m : List Addr} {H : Hp} {ρ : Fr} {S : Store} {k : Nat} {l : List Ev.D} {dx : Addr}
    (re : RE G m H ρ σ) (rs : RS G m H S) (hc : cls = .ref (G.xa k)) (hdd : dd = some dx) (xr : XRep G m H k l dx) (hi : ∀ j, i = some j → j < σ.length → σ[j]? = some (some (.ref A)))
    (h : Fin G noW σ R' m H ((ev k l ρ S).th kk t) fun _ _ _ H' v => Q v H')
    (q : ∀ a S' m' H' v, Ext m H m' H' → RE G m' H' ρ σ → RS G m' H' S' → R m' H' a v → XRep G m' H' k l dx → (Fin G noW σ R' m' H' (kk a S') fun _ _ _ H' v => Q v H') → Q' v H') : tH G A cls dd i R ev σ H Q' :=
  ⟨m, ρ, S, k, l, dx, re, rs, hc, hdd, xr, hi, (Fin.th (R := R) h).imp fun a S' m' H' v x rs' r f => q a S' m' H' v x (re.mono x) rs' r (xrep_mono rs x xr) f⟩
theorem han_star {M : Nm} (h : Ex) (v : Expr) (q : hanE s M h v = true) : noStar v = true := by
  cases h <;> first
    | (simp [hanE] at q; done)
    | (simp only [hanE] at q
       split at q
       · rfl
       · cases q)
    | (rename_i a f
       cases a <;> first
         | (simp [hanE] at q; done)
         | (simp only [hanE] at q
            split at q
            · rfl
            · cases q))
theorem evHL_len {T : Tb} {k : Nat} {i : Option Nat} {L : List Ev.D} : ∀ (l : Exs) {ρ : Fr} {S S' : Store} {ds : List Ev.D}, evH.evHL T k L i l ρ S = .ok ds S' → ds.length = lenX l
  | .nil, ρ, S, S', ds, h => by
    simp only [evH.evHL] at h
    cases h; rfl
  | .cons e l, ρ, S, S', ds, h => by
    simp only [evH.evHL] at h
    obtain ⟨d, S1, h1, h2⟩ := fin_th h
    obtain ⟨ds2, S2, h3, h4⟩ := fin_th h2
    cases h4
    simp only [List.length_cons, evHL_len l h3, lenX]
theorem hanL_len {M : Nm} : ∀ (l : Exs) (es : List Expr), hanE.hanL s M l es = true → lenX l = es.length
  | .nil, es, h => by
    simp only [hanE.hanL, List.isEmpty_iff] at h
    rw [h]; rfl
  | .cons e l, es, h => by
    simp only [hanE.hanL] at h
    split at h
    · simp only [Bool.and_eq_true] at h
      simp only [lenX, List.length_cons, hanL_len l _ h.2]
    · cases h
theorem h_const {X' : Cx} {A : Addr} {cls : Value} {dd : Option Addr} {i : Option Nat} {v : V} {d : Ev.D} {ev : Nat → List Ev.D → Fr → Store → Rs Ev.D} (h : PE X' e (tC v)) (he : ∀ k l ρ S, ev k l ρ S = .ok d S) (r : ∀ m H, Rep G m H d v) : PE X' e (tH G A cls dd i (Rep G) ev) :=
  pe_imp h fun σ H Q ⟨m, ρ, S, k, l, dx, re, rs, hc, hdd, xr, hi, q⟩ => by
    rw [he] at q
    exact q.at_ok rs (r m H)
mutual
theorem okH (hd : Hd G) (xd : Xd G) (c : Ctx G n X s W) {A : Addr} {oe : Obj} {cls : Value} {dd : Option Addr} {pn : List (Addr × Obj)} (hz : Zc cls dd oe) (hf : ∃ vs, oe.data = .fields vs) (i : Option Nat) : ∀ (h : Ex) (v : Expr), hanE s G.M h v = true → PE (X.suite A ((A, oe) :: pn)) v (tH G A cls dd i (Rep G) fun k l => evH G.T k l i h)
  | .var j, v, h => by
    simp only [hanE] at h
    split at h
    · rename_i nm pp
      obtain ⟨h1, h2, h3, h4⟩ := c.see h
      refine pe_imp (pe_var (X := X.suite A ((A, oe) :: pn)) h1 h2 h3 h4) fun σ H Q ⟨m, ρ, S, k, l, dx, re, rs, hc, hdd, xr, hi, q⟩ => ?_
      simp only [evH] at q
      split at q
      · exact q.elim
      · split at q
        · rename_i d e
          obtain ⟨w, hw, r⟩ := re.at_ j d e
          exact ⟨w, hw, q.at_ok rs r⟩
        · exact q.elim
    · cases h
  | .non, v, h => by
    simp only [hanE] at h
    split at h
    · exact h_const pe_non (fun k l ρ S => by simp only [evH]) fun _ _ => rep_non
    · cases h
  | .bl b, v, h => by
    simp only [hanE] at h
    split at h
    · simp only [beq_iff_eq] at h
      subst h
      exact h_const pe_bl (fun k l ρ S => by simp only [evH]) fun _ _ => rep_bl
    · cases h
  | .int b, v, h => by
    simp only [hanE] at h
    split at h
    · simp only [decide_eq_true_eq] at h
      subst h
      exact h_const pe_int (fun k l ρ S => by simp only [evH]) fun _ _ => rep_int
    · cases h
  | .str b, v, h => by
    simp only [hanE] at h
    split at h
    · simp only [decide_eq_true_eq] at h
      subst h
      exact h_const pe_str (fun k l ρ S => by simp only [evH]) fun _ _ => rep_str
    · cases h
  | .tup es, v, h => by
    simp only [hanE] at h
    split at h
    · rename_i vs k2 pp
      simp only [Bool.and_eq_true, decide_eq_true_eq] at h
      refine pe_imp (pe_tup (okHL hd xd c hz hf i es _ h.2)) fun σ H Q ⟨m, ρ, S, k, l, dx, re, rs, hc, hdd, xr, hi, q⟩ => ?_
      simp only [evH] at q
      refine ⟨m, ρ, S, k, l, dx, re, rs, hc, hdd, xr, hi, ?_⟩
      show Fin G noW σ (RepL G) m H (evH.evHL G.T k l i es ρ S) _
      cases e : evH.evHL G.T k l i es ρ S with
      | ok ds S' =>
        rw [e, th_ok] at q
        intro m' H' us x rs' r
        refine ⟨by rw [← r.length, evHL_len es e, hanL_len es _ h.2, ← lim]; exact h.1, fun p hp => fin_tup rs' r hp ((Fin.ext x q).toV (by intro _ _ _ z; cases z))⟩
      | ex _ _ _ => rw [e] at q; exact q
      | bad => rw [e] at q; exact q
    · cases h
  | .glb _, v, h => by simp [hanE] at h
  | .bin .., v, h => by simp [hanE] at h
  | .neg _, v, h => by simp [hanE] at h
  | .cmp .., v, h => by simp [hanE] at h
  | .chn .., v, h => by simp [hanE] at h
  | .isN .., v, h => by simp [hanE] at h
  | .and .., v, h => by simp [hanE] at h
  | .or .., v, h => by simp [hanE] at h
  | .not _, v, h => by simp [hanE] at h
  | .ife .., v, h => by simp [hanE] at h
  | .lst .., v, h => by simp [hanE] at h
  | .idx .., v, h => by simp [hanE] at h
  | .slc .., v, h => by simp [hanE] at h
  | .call .., v, h => by simp [hanE] at h
  | .calk .., v, h => by simp [hanE] at h
  | .mak .., v, h => by simp [hanE] at h
  | .makk .., v, h => by simp [hanE] at h
  | .mth .., v, h => by simp [hanE] at h
  | .bi .., v, h => by simp [hanE] at h
  | .isI .., v, h => by simp [hanE] at h
  | .bm .., v, h => by simp [hanE] at h
  | .lc .., v, h => by simp [hanE] at h
  | .att a f, v, h => by
    cases a with
    | var j =>
      simp only [hanE] at h
      split at h
      · rename_i nm p1 fn p2
        simp only [Bool.and_eq_true, decide_eq_true_eq] at h
        obtain ⟨h1, h2, h3, h4⟩ := c.see h.1
        refine ⟨fun pins st σ H Q I ⟨m, ρ, S, k, l, dx, re, rs, hc, hdd, xr, hi, q⟩ => ?_⟩
        simp only [evH] at q
        split at q
        · rename_i hij
          obtain ⟨d, ed, q2⟩ := q.at_oe
          obtain ⟨vs, hx, r, hlen, hk⟩ := xr
          obtain ⟨xf, xn⟩ := xd.xf k hk
          have hfm : f ∈ excF G.T k := List.contains_iff_mem.mp (mem_look ed)
          have hno := xn f hfm
          rw [att_of h.2] at hno
          obtain ⟨w, hw, rw_⟩ := look_zip hd r ed
          rw [att_of h.2] at hw
          exact (pe_xf (C := G.xa k) (by rw [c.K]; exact xf) (by rw [c.K]; exact hno) hz hf (pe_var (X := X.suite A ((A, oe) :: pn)) h1 h2 h3 h4) rfl).run pins st σ H Q I ⟨_, hi j hij.1 (by rw [← re.len]; exact hij.2), rfl, hc, dx, _, w, hdd, hx, hw, q2.at_ok rs rw_⟩
        · exact q.elim
      · cases h
    | _ => simp [hanE] at h
theorem okHL (hd : Hd G) (xd : Xd G) (c : Ctx G n X s W) {A : Addr} {oe : Obj} {cls : Value} {dd : Option Addr} {pn : List (Addr × Obj)} (hz : Zc cls dd oe) (hf : ∃ vs, oe.data = .fields vs) (i : Option Nat) : ∀ (h : Exs) (vs : List Expr), hanE.hanL s G.M h vs = true → PA (X.suite A ((A, oe) :: pn)) vs (tH G A cls dd i (RepL G) fun k l => evH.evHL G.T k l i h)
  | .nil, vs, h => by
    simp only [hanE.hanL, List.isEmpty_iff] at h
    subst h
    exact pa_imp pa_nil fun σ H Q ⟨m, ρ, S, k, l, dx, re, rs, hc, hdd, xr, hi, q⟩ => by
      simp only [evH.evHL] at q
      exact q.at_ok rs RepL.nil
  | .cons a es, vs, h => by
    simp only [hanE.hanL] at h
    split at h
    · rename_i x0 r0
      simp only [Bool.and_eq_true] at h
      refine pa_imp (pa_cons (okH hd xd c hz hf i a _ h.1) (okHL hd xd c hz hf i es _ h.2) (star_of ?_)) fun σ H Q ⟨m, ρ, S, k, l, dx, re, rs, hc, hdd, xr, hi, q⟩ => ?_
      · exact han_star a _ h.1
      · simp only [evH.evHL] at q
        refine tH.go re rs hc hdd xr hi q fun d S1 m1 H1 v1 x1 re1 rs1 r1 xr1 q1 => ?_
        refine tH.go re1 rs1 hc hdd xr1 hi q1 fun d2 S2 m2 H2 v2 x2 re2 rs2 r2 xr2 q2 => ?_
        exact q2.at_ok rs2 (RepL.cons (Rep.mono x2 _ _ r1) r2)
    · cases h
end
/-! #### try -/
theorem names_of (xd : Xd G) (c : Ctx G n X s W) {k : Nat} {nm : Str} (hg : gloB s nm = true) (hn : G.M.exc[k]? = some nm) : Names X nm (.ref (G.xa k)) := by
  obtain ⟨g1, g2, g3, g4, g5⟩ := c.glo hg
  exact ⟨g1, g2, .inl (by rw [c.mg]; exact (xd.mg k nm hn).1)⟩
theorem try_fin (xd : Xd G) {T : Tb} (hT : T = G.T) {m : List Addr} {H : Hp} {k x : Nat} {L : List Ev.D} {i : Option Nat} {h : Ex} {ρ1 ρ2 : Fr} {S1 : Store} {D : Ends} (hk : k < G.T.exc.length)
    (q : FinS G W m H (if (ancOf T x).contains k then (evH T x L i h ρ2 S1).nox.os ρ1 fun d S2 => .rt d S2 else .ex x L ρ1 S1) D) {m' : List Addr} {H' : Hp} {dx : Addr} {σ' : L2.St} (x' : Ext m H m' H') (re : RE G m' H' ρ1 σ') (rs : RS G m' H' S1) (xr : XRep G m' H' x L dx) :
    ∃ b, PySem.W.exmOne G.K (.ref (G.xa x)) (.ref (G.xa k)) = some b ∧ (b = true → ∀ (A : Addr) (τ : L2.St), RE G m' H' ρ2 τ → (∀ j, i = some j → j < τ.length → τ[j]? = some (some (.ref A))) → tH G A (.ref (G.xa x)) (some dx) i (Rep G) (fun k l => evH G.T k l i h) τ H' D.rt) ∧ (b = false → W (.ref (G.xa x)) (some dx) σ' H') := by
  subst hT
  have hx : x < G.T.exc.length := by
    obtain ⟨_, _, _, _, hx⟩ := xr
    exact hx
  refine ⟨(ancOf G.T x).contains k, xd.exm x k hx hk, fun hb A τ re2 hi => ?_, fun hb => ?_⟩
  · rw [if_pos hb] at q
    refine ⟨m', ρ2, S1, x, L, dx, re2, rs, rfl, rfl, xr, hi, ?_⟩
    show Fin G noW τ (Rep G) m' H' (evH G.T x L i h ρ2 S1) _
    cases e : evH G.T x L i h ρ2 S1 with
    | ok d S2 =>
      rw [e] at q
      exact fun m2 H2 v x2 rs2 r2 => q m2 H2 v (x'.trans x2) rs2 r2
    | ex _ _ _ => rw [e] at q; exact q.elim
    | bad => rw [e] at q; exact q.elim
  · rw [if_neg (by rw [hb]; exact Bool.false_ne_true)] at q
    exact q m' H' dx σ' x' re rs xr
theorem s_try (hd : Hd G) (xd : Xd G) (c : CtxS G n X s W) (hT : C.T = G.T) {k : Nat} {nm : Str} {np hp rp : Pos} {B : Sts} {h : Ex} {body : List Stmt} (hg : gloB s nm = true) (hn : G.M.exc[k]? = some nm)
    (hb : ∀ (W1 : WX) (pn : List (Addr × Obj)) (xe : Value → Shared → Prop), Takes (X.tr pn xe) W1 → PassesOwn (model X.prog X.w) X.A X.env xe → PSs (X.tr pn xe) body (tS G W1 (exSs C B))) (hh : hanE s G.M h x = true) :
    PS X (.Try body [.ExceptHandler (some (.Name nm np)) none [.Return (some x) rp] hp] [] [] pos) (tS G W (exS C (.tryE B k none h))) := by
  have q0 := ps_try_only (pos := pos) (pos' := hp) (np := np) c.stk c.fr (names_of xd c.c hg hn) c.c.tk (tb := fun W1 => tS G W1 (exSs C B)) (ts := fun A cls dd => tRet (tH G A cls dd none (Rep G) fun k l => evH G.T k l none h)) hb (fun A oe cls dd pn hz hf => pss_one (ps_ret (pos := rp) (okH hd xd c.c hz hf none h x hh)))
  refine ps_imp q0 fun D σ H ⟨m, ρ, S, re, rs, q⟩ => ⟨m, ρ, S, re, rs, ?_⟩
  simp only [exS] at q
  cases e : exSs C B ρ S with
  | ex xc L ρ1 S1 =>
    rw [e] at q
    intro m' H' dx σ' x' re' rs' xr
    obtain ⟨b, h1, h2, h3⟩ := try_fin xd hT (xd.mg k nm hn).2 q x' re' rs' xr
    exact ⟨b, by rw [c.c.K]; exact h1, fun hb A _ => h2 hb A σ' re' (fun j hj _ => by cases hj), h3⟩
  | nx ρ1 S1 => rw [e] at q; exact q
  | rt d S1 => rw [e] at q; exact q
  | bk ρ1 S1 => rw [e] at q; exact q
  | ct ρ1 S1 => rw [e] at q; exact q
  | bad => rw [e] at q; exact q
theorem s_tryAs (hd : Hd G) (xd : Xd G) (c : CtxS G n X s W) (hT : C.T = G.T) {k j : Nat} {nm y : Str} {np hp rp : Pos} {B : Sts} {h : Ex} {body : List Stmt} (hg : gloB s nm = true) (hn : G.M.exc[k]? = some nm) (hj : s.N[j]? = some y) (hy : s.sc.names.lookup y = some .local)
    (hb : ∀ (W1 : WX) (pn : List (Addr × Obj)) (xe : Value → Shared → Prop), Takes (X.tr pn xe) W1 → PassesOwn (model X.prog X.w) X.A X.env xe → PSs (X.tr pn xe) body (tS G W1 (exSs C B))) (hh : hanE s G.M h x = true) :
    PS X (.Try body [.ExceptHandler (some (.Name nm np)) (some y) [.Return (some x) rp] hp] [] [] pos) (tS G W (exS C (.tryE B k (some j) h))) := by
  have q0 := ps_try_as (pos := pos) (pos' := hp) (np := np) c.stk c.fr c.c.nN (by rw [c.c.N]; exact hj) (show X.env.scope.names.lookup y = some .local by rw [c.c.sc]; exact hy) (names_of xd c.c hg hn) c.c.tk (tb := fun W1 => tS G W1 (exSs C B)) (ts := fun A cls dd => tRet (tH G A cls dd (some j) (Rep G) fun k l => evH G.T k l (some j) h)) hb (fun A oe cls dd pn hz hf => pss_one (ps_ret (pos := rp) (okH hd xd c.c hz hf (some j) h x hh)))
  refine ps_imp q0 fun D σ H ⟨m, ρ, S, re, rs, q⟩ => ⟨m, ρ, S, re, rs, ?_⟩
  simp only [exS] at q
  cases e : exSs C B ρ S with
  | ex xc L ρ1 S1 =>
    rw [e] at q
    intro m' H' dx σ' x' re' rs' xr
    obtain ⟨b, h1, h2, h3⟩ := try_fin xd hT (xd.mg k nm hn).2 q x' re' rs' xr
    refine ⟨b, by rw [c.c.K]; exact h1, fun hb A _ => h2 hb A (σ'.set j (some (.ref A))) (re'.gone _) (fun j' hj' hl => ?_), h3⟩
    cases hj'
    rw [List.length_set] at hl
    rw [List.getElem?_set_self hl]
  | nx ρ1 S1 => rw [e] at q; exact q
  | rt d S1 => rw [e] at q; exact q
  | bk ρ1 S1 => rw [e] at q; exact q
  | ct ρ1 S1 => rw [e] at q; exact q
  | bad => rw [e] at q; exact q
end
end Ev
end
section
set_option maxRecDepth 100000
set_option maxHeartbeats 8000000
/-! Ev, part 17b: dicts in statements. -/
namespace Ev
open PySem PySem.Spec PyProof.Rows L2
/-! #### unlocked again -/
section
variable {G : Pg} {m : List Addr} {H : Hp} {S : Store} {p : Addr} {od : Obj} {kvs : List (List Key × V)}
theorem ne_dT {q : Addr} {vs : List V} (hp : H p = some (.frz od (.dT kvs))) (h : Rd H q (.tup vs) ∨ Rd H q (.lst vs)) : q ≠ p := fun e => by
  subst e
  rcases h with (h | ⟨_, h⟩) | (h | ⟨_, h⟩) <;> rw [hp] at h <;> cases h
theorem rd_upd {q : Addr} {u w : HO} (n : q ≠ p) (h : Rd H q u) : Rd (upd H p w) q u := by
  rcases h with h | ⟨o, h⟩
  · exact .inl (by rw [upd_ne n]; exact h)
  · exact .inr ⟨o, by rw [upd_ne n]; exact h⟩
mutual
theorem Rep.unl (hp : H p = some (.frz od (.dT kvs))) : ∀ (d : D) (v : V), Rep G m H d v → Rep G m (upd H p (.dT kvs)) d v
  | .non, _, h => by rw [h.non_inv]; exact rep_non
  | .bl _, _, h => by rw [h.bl_inv]; exact rep_bl
  | .int _, _, h => by rw [h.int_inv]; exact rep_int
  | .str _, _, h => by rw [h.str_inv]; exact rep_str
  | .tup l, _, h => by
    obtain ⟨q, vs, rfl, f, r⟩ := h.tup_inv
    exact rep_tup (f.imp (fun z => ⟨z.1, rd_upd (ne_dT hp (.inl z.2)) z.2⟩) id) (RepL.unl hp l vs r)
  | .lst l, _, h => by
    obtain ⟨q, vs, rfl, f, r⟩ := h.lst_inv
    exact rep_lst ⟨f.1, rd_upd (ne_dT hp (.inr f.2)) f.2⟩ (RepL.unl hp l vs r)
  | .ref n, _, h => by
    obtain ⟨q, rfl, e⟩ := h.ref_inv
    exact rep_ref e
  | .obj c l, _, h => by
    obtain ⟨q, vs, rfl, ⟨f1, dx, f2⟩, r⟩ := h.obj_inv
    exact rep_obj ⟨f1, dx, by rw [upd_ne (fun e => by subst e; rw [hp] at f2; cases f2)]; exact f2⟩ (RepL.unl hp l vs r)
theorem RepL.unl (hp : H p = some (.frz od (.dT kvs))) : ∀ (l : List D) (vs : List V), RepL G m H l vs → RepL G m (upd H p (.dT kvs)) l vs
  | [], _, h => by simp only [RepL] at h; subst h; exact RepL.nil
  | d :: l, _, h => by
    simp only [RepL] at h
    obtain ⟨v, r, rfl, h1, h2⟩ := h
    exact RepL.cons (Rep.unl hp d v h1) (RepL.unl hp l r h2)
end
theorem RepC.unl (hp : H p = some (.frz od (.dT kvs))) {c : Cell} {q : Addr} (n : q ≠ p) (h : RepC G m H c q) : RepC G m (upd H p (.dT kvs)) c q := by
  cases c with
  | lst l =>
    obtain ⟨vs, h1, r⟩ := h
    exact ⟨vs, by rw [upd_ne n]; exact h1, RepL.unl hp _ _ r⟩
  | ins c fs =>
    obtain ⟨dx, vs, h1, r⟩ := h
    exact ⟨dx, vs, by rw [upd_ne n]; exact h1, RepL.unl hp _ _ r⟩
  | dct lk kvs =>
    obtain ⟨vs, h1, r⟩ := h
    exact ⟨vs, h1.at' (upd_ne n), RepL.unl hp _ _ r⟩
theorem RS.unl {n : Nat} {c : Cell} (hp : H p = some (.frz od (.dT kvs))) (hn : m[n]? = some p) (rs : RS G m H S) (h : RepC G m (upd H p (.dT kvs)) c p) : RS G m (upd H p (.dT kvs)) (S.set n c) := by
  refine ⟨by rw [List.length_set]; exact rs.len, rs.nd, fun k c' e => ?_⟩
  by_cases hk : k = n
  · subst hk
    have hl : k < S.length := by rw [← rs.len]; exact (List.getElem?_eq_some_iff.mp hn).1
    rw [List.getElem?_set_self hl] at e
    cases e
    exact ⟨p, hn, h⟩
  · rw [List.getElem?_set_ne (Ne.symm hk)] at e
    obtain ⟨q, hq, r⟩ := rs.cel k c' e
    refine ⟨q, hq, RepC.unl hp (fun z => hk ?_) r⟩
    subst z
    obtain ⟨l1, e1⟩ := List.getElem?_eq_some_iff.mp hq
    obtain ⟨l2, e2⟩ := List.getElem?_eq_some_iff.mp hn
    exact (List.getElem_inj rs.nd).mp (e1.trans e2.symm)
theorem RE.unl {ρ : Fr} {σ : L2.St} (hp : H p = some (.frz od (.dT kvs))) (re : RE G m H ρ σ) : RE G m (upd H p (.dT kvs)) ρ σ :=
  ⟨re.len, fun i d e => let ⟨v, e1, r⟩ := re.at_ i d e; ⟨v, e1, Rep.unl hp d v r⟩⟩
/-- from ahead of the lock to behind it -/
theorem Ext.unl {m' : List Addr} {H' : Hp} (h0 : H p = some (.dT kvs)) (hm : p ∈ m) (x : Ext m (upd H p (.frz od (.dT kvs))) m' H') : Ext m H m' (upd H' p (.dT kvs)) := by
  refine ⟨x.pre, fun a o h na => ?_, fun a o u h => ?_⟩
  · have ne : a ≠ p := fun z => na (by rw [z]; exact hm)
    obtain ⟨h1, h2⟩ := x.keep a o (by rw [upd_ne ne]; exact h) na
    exact ⟨by rw [upd_ne ne]; exact h1, h2⟩
  · have ne : a ≠ p := fun z => by
      rw [z, h0] at h
      cases h
    have h1 := x.frz a o u (by rw [upd_ne ne]; exact h)
    rw [upd_ne ne]
    exact h1
end
section
variable {G : Pg} {n : Nat} {X : Cx} {s : Sx} {W : WX} {C : Cs} {e x y z : Expr} {p pos apos tpos : Pos} {a b : Ex} {es : List Expr} {l l2 : Exs}
theorem fin_opn {m : List Addr} {H : Hp} {S : Store} {p : Addr} {k : Nat} {od : Obj} {kvs : List (List Int × Ev.D)} {vs : List V} {r : Os} {D : Ends} (rs : RS G m H S) (hk : m[k]? = some p) (h0 : H p = some (.dT (zK kvs vs))) (rl : RepL G m H (kvs.map (·.2)) vs)
    (h : FinS G W m H (opn k kvs r) D) :
    FinS G W m (upd H p (.frz od (.dT (zK kvs vs)))) r ⟨fun σ' H' => H' p = some (.frz od (.dT (zK kvs vs))) ∧ D.nx σ' (upd H' p (.dT (zK kvs vs))), fun v H' => H' p = some (.frz od (.dT (zK kvs vs))) ∧ D.rt v (upd H' p (.dT (zK kvs vs))),
      fun σ' H' => H' p = some (.frz od (.dT (zK kvs vs))) ∧ D.bk σ' (upd H' p (.dT (zK kvs vs))), fun σ' H' => H' p = some (.frz od (.dT (zK kvs vs))) ∧ D.ct σ' (upd H' p (.dT (zK kvs vs)))⟩ := by
  have hm := List.mem_of_getElem? hk
  have nf : NF H p := NF.of h0 fun _ _ z => nomatch z
  have xl : Ext m H m (upd H p (.frz od (.dT (zK kvs vs)))) := Ext.write hm nf
  have st : ∀ {m' : List Addr} {H' : Hp} {S' : Store}, Ext m (upd H p (.frz od (.dT (zK kvs vs)))) m' H' → RS G m' H' S' →
      H' p = some (.frz od (.dT (zK kvs vs))) ∧ Ext m H m' (upd H' p (.dT (zK kvs vs))) ∧ RS G m' (upd H' p (.dT (zK kvs vs))) (S'.set k (.dct false kvs)) := fun {m' H' S'} x' rs' => by
    have hp := x'.frz p od _ upd_same
    refine ⟨hp, Ext.unl h0 hm x', RS.unl hp (pre_get x'.pre hk) rs' ⟨vs, upd_same, RepL.unl hp _ _ (RepL.mono (xl.trans x') _ _ rl)⟩⟩
  cases r with
  | nx ρ' S' => exact fun m' H' σ' x' re' rs' => let ⟨a1, a2, a3⟩ := st x' rs'; ⟨a1, h m' _ σ' a2 (RE.unl a1 re') a3⟩
  | rt d S' => exact fun m' H' v x' rs' r' => let ⟨a1, a2, a3⟩ := st x' rs'; ⟨a1, h m' _ v a2 a3 (Rep.unl a1 _ _ r')⟩
  | bk ρ' S' => exact fun m' H' σ' x' re' rs' => let ⟨a1, a2, a3⟩ := st x' rs'; ⟨a1, h m' _ σ' a2 (RE.unl a1 re') a3⟩
  | ct ρ' S' => exact fun m' H' σ' x' re' rs' => let ⟨a1, a2, a3⟩ := st x' rs'; ⟨a1, h m' _ σ' a2 (RE.unl a1 re') a3⟩
  | ex c l ρ' S' => exact FinS.ext (D := D) xl h
  | bad => exact h
theorem FinS.at_o {α : Type} {m : List Addr} {H : Hp} {S : Store} {ρ : Fr} {o : Option α} {k : α → Store → Os} {t : Tag k} {D : Ends} (h : FinS G W m H ((ofO o S).os ρ k t) D) : ∃ a, o = some a ∧ FinS G W m H (k a S) D := by
  cases o with
  | none => exact h.elim
  | some a => exact ⟨a, rfl, h⟩
theorem s_dset (hd : Hd G) (c : CtxS G n X s W) {i : Nat} {e0 o0 v0 : Ex} {ss : Sts} {nm : Str} {px p2 p3 pos1 pos2 : Pos} {cpos npos : Pos} {w zz : Expr} {rest : List Stmt} (hg : gloB s "tuple" = true) (hp : putB s i nm = true) (hse : seeB s i nm = true) (ha : PE X y (tE G W (evE C e0))) (hy : noStar y = true)
    (hv : PE X w (tE G W (evE C v0))) (ho : PE X zz (tE G W (evE C o0))) (hr : PSs X rest (tS G W (exSs C ss))) :
    PSs X (.Assign [.Name nm px] (.Call (.Name "tuple" npos) [y] [] cpos) pos1 :: .Assign [.Subscript zz (.Name nm p2) p3] w pos2 :: rest) (tS G W (exSs C (.dset i e0 o0 v0 ss))) := by
  obtain ⟨g1, g2, g3⟩ := c.c.put hp
  obtain ⟨h1, h2, h3, h4⟩ := c.c.see hse
  have hu : X.A.units + 1 < cLine := by have := c.c.units; omega
  have r1 := ps_set (pos := pos1) (pos' := px) c.c.nN g1 g2 (pe_tupC (p := npos) (pos := cpos) hd c.c hg ha hy) (sw_none rfl) g3
  have r2 := ps_dput (pos := pos2) (pos' := p3) hu ho (pe_var (pos := p2) h1 h2 h3 h4) hv (sw_other (by intro _ _ h; cases h))
  refine pss_imp (pss_cons r1 (pss_cons r2 hr)) fun D σ H ⟨m, ρ, S, re, rs, q⟩ => ?_
  simp only [exSs] at q
  split at q
  · exact q.elim
  · rename_i hi
    refine tS.go re re rs q fun d S1 m1 H1 v1 _ x1 re1 _ rs1 r1 q1 => ?_
    obtain ⟨kk, ek, q2⟩ := q1.at_o
    obtain ⟨b1, rfl, rb⟩ := lstI_sq rs1 r1 ek
    refine ⟨b1, _, rfl, rb, fun t ht => ?_⟩
    have xt : Ext m1 H1 m1 (upd H1 t (.tup (kk.map V.int))) := Ext.new ht
    have rk : Rep G m1 (upd H1 t (.tup (kk.map V.int))) (tupI kk) (.ref t) := rep_tup (.inl ⟨rs1.fresh ht, .inl upd_same⟩) (ints_rep kk)
    have re2 := (re1.mono xt).set (i := i) rk
    refine tS.go re2 re2 (rs1.new ht) (FinS.ext xt q2) fun d3 S3 m3 H3 v3 _ x3 re3 _ rs3 r3 q3 => ?_
    refine tS.go re3 re3 rs3 q3 fun d4 S4 m4 H4 v4 _ x4 re4 _ rs4 r4 q4 => ?_
    refine ⟨.ref t, by rw [List.getElem?_set_self (by rw [← re.len]; omega)], ?_⟩
    split at q4
    · rename_i S5 e5
      unfold dputD at e5
      split at e5
      · split at e5
        · rename_i j0 kvs el
          split at e5
          · rename_i hz
            cases e5
            obtain ⟨p0, rfl, hp0⟩ := r4.ref_inv
            obtain ⟨p', hp', vs, hv', rl⟩ := rs4.cel _ _ el
            rw [hp0] at hp'; cases hp'
            have hv0 : H4 p0 = some (.dT (zK kvs vs)) := hv'
            have ht4 : H4 t = some (.tup ((kk.map iK).map kV)) := by
              rw [kVs]
              exact ((x3.trans x4).keep t _ upd_same (rs1.fresh ht)).1
            have nf : NF H4 p0 := NF.of hv0 fun _ _ z => nomatch z
            obtain ⟨us, eu, ru⟩ := putD_rep (k := kk) (Rep.mono x4 _ _ r3) rl
            refine ⟨p0, _, rfl, DPut.t hv0 ht4 (by rw [zK_len rl, ← lim]; exact hz), ?_⟩
            rw [eu]
            have xw : Ext m4 H4 m4 (upd H4 p0 (.dT (zK (putD kk d3 kvs) us))) := Ext.write (List.mem_of_getElem? hp0) nf
            exact ⟨m4, _, _, re4.mono xw, rs4.write (c := .dct false (putD kk d3 kvs)) nf hp0 ⟨us, upd_same, RepL.mono xw _ _ ru⟩, FinS.ext xw q4⟩
          · cases e5
        · cases e5
      · cases e5
    · exact q4.elim
theorem tup_out {m : List Addr} {H : Hp} {S : Store} {q : Addr} {vs : List V} (rs : RS G m H S) (h : H q = some (.tup vs)) : q ∉ m := fun hm => by
  obtain ⟨n, hn, e⟩ := List.getElem_of_mem hm
  have hS : n < S.length := by rw [← rs.len]; exact hn
  obtain ⟨p', hp', r⟩ := rs.cel n S[n] (List.getElem?_eq_getElem hS)
  rw [List.getElem?_eq_getElem hn, e] at hp'
  cases hp'
  cases hc : S[n] with
  | lst l =>
    rw [hc] at r
    obtain ⟨_, r, _⟩ := r
    rw [h] at r; cases r
  | ins c fs =>
    rw [hc] at r
    obtain ⟨_, _, r, _⟩ := r
    rw [h] at r; cases r
  | dct lk kvs =>
    rw [hc] at r
    obtain ⟨_, r, _⟩ := r
    rcases r.rd with r | ⟨_, r⟩ <;> rw [h] at r <;> cases r
theorem zK_get {m : List Addr} {H : Hp} {ks : List Key} {v : V} : ∀ {kvs : List (List Int × Ev.D)} {vs : List V}, RepL G m H (kvs.map (·.2)) vs → ∀ i : Nat, (zK kvs vs)[i]? = some (ks, v) → ∃ (k : List Int) (d : Ev.D), kvs[i]? = some (k, d) ∧ ks = k.map iK ∧ Rep G m H d v
  | [], vs, r, i, e => by simp at e
  | (k, d) :: kvs, vs, r, i, e => by
    simp only [List.map_cons, RepL] at r
    obtain ⟨u, us, rfl, r1, r2⟩ := r
    cases i with
    | zero =>
      have e' : some (k.map iK, u) = some (ks, v) := e
      cases e'
      exact ⟨k, d, rfl, rfl, r1⟩
    | succ i => exact zK_get r2 i e
theorem items_RY {m1 : List Addr} {H1 : Hp} {p : Addr} {od : Obj} {kvs : List (List Int × Ev.D)} {vs : List V} {g : Gd} (hf : H1 p = some (.frz od (.dT (zK kvs vs)))) (rl : RepL G m1 H1 (kvs.map (·.2)) vs) : RY G m1 H1 (itmL kvs, g) (Itit p od (zK kvs vs)) := by
  intro m H S x rs _ i
  have hl := zK_len rl
  have il : (itmL kvs).length = kvs.length := List.length_map ..
  refine ⟨fun d ed => ⟨⟨x.frz _ _ _ hf, ?_⟩, ?_⟩, fun e => ⟨x.frz _ _ _ hf, ?_⟩⟩
  · have := (List.getElem?_eq_some_iff.mp ed).1
    show i < (zK kvs vs).length
    rw [hl, ← il]
    exact this
  · rintro w H' ⟨T, ks, v, q, e1, rfl, e2, e3, rfl⟩
    obtain ⟨k, dd, e4, rfl, r1⟩ := zK_get rl i e1
    have ed' : (itmL kvs)[i]? = some (.tup [tupI k, dd]) := by
      show (kvs.map _)[i]? = _
      rw [List.getElem?_map, e4]
      rfl
    have e5 : some d = some (.tup [tupI k, dd]) := ed.symm.trans ed'
    cases e5
    have xt : Ext m H m (upd H T (.tup [.ref q, v])) := Ext.new e3
    have qT : q ≠ T := fun z => by rw [z, e3] at e2; cases e2
    refine ⟨xt, rs.new e3, rep_tup (.inl ⟨rs.fresh e3, .inl upd_same⟩) (RepL.cons (rep_tup (vs := k.map V.int) (.inl ⟨tup_out rs e2, .inl ?_⟩) (ints_rep k)) (RepL.cons (Rep.mono xt _ _ (Rep.mono x _ _ r1)) RepL.nil))⟩
    rw [upd_ne qT, e2, kVs]
  · show (zK kvs vs).length ≤ i
    have e' : (itmL kvs).length = i := e
    rw [hl, ← il, e']
    exact Nat.le_refl i
theorem s_forI (c : CtxS G n X s W) {i j v : Nat} {B : Sts} {q : List Stmt} {nm : Str} {px py pt po : Pos} {nx ny : Str} {kk : Nat} (hse : seeB s v nm = true) (hp : tgB s (.tp [i, j]) (.Tuple [.Name nx px, .Name ny py] kk pt) = true) (hl : (apos.endLine == tpos.line) = true) (hb : PSs X q (tS G W (exSs C B))) :
    PS X (.For (.Tuple [.Name nx px, .Name ny py] kk pt) (.Call (.Attribute (.Name nm po) "items" apos) [] [] tpos) q [] pos) (tS G W (exS C (.forI i j v B))) := by
  have hvar : PE X (.Name nm po) (tE G W (evE C (.var v))) := r_var c.c hse
  refine ps_imp (ps_lock (ps_for c.po c.c.calm (pi_itemsT hvar rfl hl) (r_tg c.c hp) hb)) fun D σ H ⟨m, ρ, S, re, rs, q⟩ => ?_
  simp only [exS] at q
  obtain ⟨d, ed, q1⟩ := q.at_o
  split at q1
  · rename_i k kvs eo
    unfold opnD at eo
    split at eo
    · split at eo
      · rename_i k' kvs' el
        cases eo
        have er : ρ[v]? = some (some (.ref k)) := by
          unfold valS at ed
          split at ed
          · rename_i d' e'
            cases ed
            exact e'
          · cases ed
        obtain ⟨p, hpk, vs, hv', rl⟩ := rs.cel _ _ el
        have h0 : H p = some (.dT (zK kvs vs)) := hv'
        refine ⟨p, _, h0, True.intro, fun od => ?_⟩
        have q2 := fin_opn (od := od) rs hpk h0 rl q1
        have nf : NF H p := NF.of h0 fun _ _ z => nomatch z
        have xl : Ext m H m (upd H p (.frz od (.dT (zK kvs vs)))) := Ext.write (List.mem_of_getElem? hpk) nf
        have rsl : RS G m (upd H p (.frz od (.dT (zK kvs vs)))) (S.set k (.dct true kvs)) := rs.write nf hpk ⟨vs, ⟨od, upd_same⟩, RepL.mono xl _ _ rl⟩
        have rll := RepL.mono xl _ _ rl
        have rel := re.mono xl
        refine ⟨m, ρ, _, rel, rsl, ?_⟩
        simp only [evE, er]
        intro m1 H1 v1 x1 rs1 r1
        obtain ⟨p1, rfl, hp1⟩ := r1.ref_inv
        rw [pre_get x1.pre hpk] at hp1
        cases hp1
        have hf := x1.frz p od _ (upd_same)
        exact ⟨p, od, zK kvs vs, rfl, hf, for_fin (rel.mono x1) rs1 (items_RY hf (RepL.mono x1 _ _ rll)) (FinS.ext x1 q2)⟩
      · cases eo
    · cases eo
  · exact q1.elim
end
end Ev
end
section
set_option maxRecDepth 100000
set_option maxHeartbeats 8000000
/-! Ev, part 18: every checked statement does what the evaluator says; defs. -/
namespace Ev
open PySem PySem.Spec PyProof.Rows L2
theorem no_swap2 {ts : List Expr} {v : Expr} {kt : Nat} {pt : Pos} {env : Env} (h : notTuple v = true) : swappedStores [.Tuple ts kt pt] v env = pure none := by
  cases v <;> first | rfl | (simp [notTuple] at h)
section
variable {G : Pg} {n : Nat} {C : Cs} (hd : Hd G) (np : NpOk G) (xd : Xd G) (xm : XMk G) (hC : C = csOf G.T n)
include hd np xd xm hC
mutual
theorem okS : ∀ (a : Ev.St) (s : Sx) (W : WX) (X : Cx) (st : Stmt), CtxS G n X s W → chkS G.M a s st = true → PS X st (tS G W (exS C a))
  | .ex e, s, W, X, st, c, h => by
    simp only [chkS] at h
    split at h
    · simp only [Bool.and_eq_true] at h
      exact s_ex (okE hd np hC e s W X _ c.c h.2).1 h.1
    · cases h
  | .asg i e, s, W, X, st, c, h => by
    simp only [chkS] at h
    split at h
    · rename_i nm px v pp
      simp only [Bool.and_eq_true] at h
      by_cases hn : notComp v = true
      · exact s_asg c (okE hd np hC e s W X _ c.c h.2).1 h.1 (sw_none hn)
      · exact s_asgLc hd np hC c h.2 hn h.1
    · cases h
  | .asgT is e, s, W, X, st, c, h => by
    simp only [chkS] at h
    split at h
    · rename_i ts k pt v pp
      simp only [Bool.and_eq_true] at h
      refine s_asgT c (okE hd np hC e s W X _ c.c h.2.2).1 h.2.1 ?_
      obtain ⟨h1, _⟩ := h
      split at h1
      · refine no_swap ?_
        simp only [Bool.or_eq_true, Bool.not_eq_true'] at h1
        exact h1
      · rename_i hnt
        exact no_swap2 (by
          cases v <;> first | rfl | exact (hnt _ _ _ rfl).elim)
    · cases h
  | .swp i j a b, s, W, X, st, c, h => by
    simp only [chkS] at h
    split at h
    · simp only [Bool.and_eq_true, Bool.not_eq_true', beq_eq_false_iff_ne] at h
      obtain ⟨h1, h2, h3, h4, h5, h6⟩ := h
      exact s_swp c h1 h2 h3 h4 (okE hd np hC a s W X _ c.c h5).1 (chk_form _ _ _ h5).1 (okE hd np hC b s W X _ c.c h6).1 (chk_form _ _ _ h6).1
    · cases h
  | .asgI o i e, s, W, X, st, c, h => by
    simp only [chkS] at h
    split at h
    · simp only [Bool.and_eq_true] at h
      obtain ⟨h1, h2, h3, h4⟩ := h
      exact s_asgI c (okE hd np hC o s W X _ c.c h2).1 (okE hd np hC i s W X _ c.c h3).1 (okE hd np hC e s W X _ c.c h4).1 h1
    · cases h
  | .augN i sb e, s, W, X, st, c, h => by
    simp only [chkS] at h
    split at h
    · simp only [Bool.and_eq_true] at h
      obtain ⟨h1, h2, h3⟩ := h
      exact s_augN c (okE hd np hC e s W X _ c.c h3).1 h2 h1
    · cases h
  | .augI o i sb e, s, W, X, st, c, h => by
    simp only [chkS] at h
    split at h
    · simp only [Bool.and_eq_true] at h
      obtain ⟨h0, h1, h2, h3, h4⟩ := h
      exact s_augI c (okE hd np hC o s W X _ c.c h2).1 (okE hd np hC i s W X _ c.c h3).1 (okE hd np hC e s W X _ c.c h4).1 h1 h0
    · cases h
  | .asg2 i j e, s, W, X, st, c, h => by
    simp only [chkS] at h
    split at h
    · simp only [Bool.and_eq_true] at h
      obtain ⟨h1, h2, h3, h4⟩ := h
      exact s_asg2 c (okE hd np hC e s W X _ c.c h4).1 h1 h2 rfl
    · cases h
  | .asgA o f e, s, W, X, st, c, h => by
    simp only [chkS] at h
    split at h
    · simp only [Bool.and_eq_true, decide_eq_true_eq] at h
      obtain ⟨h1, h2, h3⟩ := h
      exact s_asgA hd c (by rw [hC, csOf_T]) h1 (okE hd np hC o s W X _ c.c h2).1 (okE hd np hC e s W X _ c.c h3).1
    · cases h
  | .ret e, s, W, X, st, c, h => by
    simp only [chkS] at h
    split at h
    · exact s_ret (okE hd np hC e s W X _ c.c h).1
    · cases h
  | .retN, s, W, X, st, c, h => by
    simp only [chkS] at h
    split at h
    · exact s_retN
    · cases h
  | .pas, s, W, X, st, c, h => by
    simp only [chkS] at h
    split at h
    · exact s_pas
    · cases h
  | .nev, s, W, X, st, c, h => ⟨fun pins st σ H D I ⟨m, ρ, S, re, rs, q⟩ => by
      simp only [exS] at q
      exact q.elim⟩
  | .brk, s, W, X, st, c, h => by
    simp only [chkS] at h
    split at h
    · exact s_brk
    · cases h
  | .cnt, s, W, X, st, c, h => by
    simp only [chkS] at h
    split at h
    · exact s_cnt
    · cases h
  | .ife d a b, s, W, X, st, c, h => by
    simp only [chkS] at h
    split at h
    · simp only [Bool.and_eq_true] at h
      exact s_if (okE hd np hC d s W X _ c.c h.1).2.pt (okSs a s W X _ c h.2.1) (okSs b s W X _ c h.2.2)
    · cases h
  | .whl d b, s, W, X, st, c, h => by
    simp only [chkS] at h
    split at h
    · simp only [Bool.and_eq_true] at h
      exact s_whl c (okE hd np hC d s W X _ c.c h.1).2.pt (okSs b s W X _ c h.2)
    · cases h
  | .forr tg it b, s, W, X, st, c, h => by
    simp only [chkS] at h
    split at h
    · simp only [Bool.and_eq_true] at h
      exact s_for c (okW hd np hC it s W X _ _ c.c h.2.1) (chkW_set _ _ _ _ h.2.1) h.1 (okSs b s W X _ c h.2.2)
    · cases h
  | .forI i j v b, s, W, X, st, c, h => by
    simp only [chkS] at h
    split at h
    · simp only [Bool.and_eq_true, decide_eq_true_eq] at h
      obtain ⟨h1, h2, h3, h4, h5⟩ := h
      subst h1
      exact s_forI c h4 h3 h2 (okSs b s W X _ c h5)
    · cases h
  | .rai k es, s, W, X, st, c, h => by
    simp only [chkS] at h
    split at h
    · simp only [Bool.and_eq_true, decide_eq_true_eq] at h
      exact s_rai xm xd c (by rw [hC, csOf_T]) h.2.1 h.1 h.2.2 (okL hd np hC es s W X _ c.c h.2.2)
    · cases h
  | .tryE b k i hx, s, W, X, st, c, h => by
    simp only [chkS] at h
    split at h
    · simp only [Bool.and_eq_true, decide_eq_true_eq] at h
      obtain ⟨h1, h2, h3, h4, h5⟩ := h
      split at h5
      · exact s_try hd xd c (by rw [hC, csOf_T]) h1 h2 (fun W1 pn xe tk po => okSs b s W1 _ _ (c.tr tk po) h3) h4
      · simp only [Bool.and_eq_true, decide_eq_true_eq] at h5
        exact s_tryAs hd xd c (by rw [hC, csOf_T]) h1 h2 h5.1 h5.2 (fun W1 pn xe tk po => okSs b s W1 _ _ (c.tr tk po) h3) h4
      · cases h5
    · cases h
theorem okSs : ∀ (a : Sts) (s : Sx) (W : WX) (X : Cx) (sts : List Stmt), CtxS G n X s W → chkSs G.M a s sts = true → PSs X sts (tS G W (exSs C a))
  | .nil, s, W, X, sts, c, h => by
    simp only [chkSs, List.isEmpty_iff] at h
    subst h
    exact s_nil
  | .cons a b, s, W, X, sts, c, h => by
    simp only [chkSs] at h
    split at h
    · simp only [Bool.and_eq_true] at h
      exact s_cons (okS a s W X _ c h.1) (okSs b s W X _ c h.2)
    · cases h
  | .dset i e o v ss, s, W, X, sts, c, h => by
    simp only [chkSs] at h
    split at h
    · rename_i nm px fn pf y ps pa zz nm2 p2 p3 w pw rest
      simp only [Bool.and_eq_true, decide_eq_true_eq] at h
      obtain ⟨h1, h2, h3, h4, h5, h6, h7, h8⟩ := h
      subst h4
      have en : nm2 = nm := by
        have a1 := (c.c.put h1).1
        have a2 := (c.c.see h2).1
        exact Option.some.inj (a2.symm.trans a1)
      subst en
      exact s_dset hd c h3 h1 h2 (okE hd np hC e s W X _ c.c h5).1 (chk_form _ _ _ h5).1 (okE hd np hC v s W X _ c.c h6).1 (okE hd np hC o s W X _ c.c h7).1 (okSs ss s W X _ c h8)
    · cases h
end
end
end Ev
end
section
set_option maxRecDepth 100000
set_option maxHeartbeats 8000000
/-! Ev, part 19: defs, level by level. -/
namespace Ev
open PySem PySem.Spec PyProof.Rows L2
/-- what of a def is known -/
def FnFact (G : Pg) (f : Nat) (F : Fn) : Prop := ∃ (x qual : Str) (params : Arguments) (body : List Stmt) (scope : Scope) (N : List Str) (dvs : List V) (kws : List (Str × V)),
  FunD G.K x qual params body scope dvs kws (G.fa f) (G.fd f) ∧ FnScope N (G.ps f) scope ∧ N.length = F.nv ∧ F.np ≤ F.nv ∧ chkSs G.M F.body ⟨N, scope, none⟩ body = true
section
variable {G : Pg} {n : Nat} {m : List Addr} {H : Hp} {S : Store}
theorem re_start {ds : List D} {vs : List V} {N : List Str} {nv : Nat} (hN : N.length = nv) (hl : ds.length ≤ nv) (r : RepL G m H ds vs) : RE G m H (startF nv ds) (L2.start N vs) := by
  subst hN
  have hv := r.length
  refine ⟨?_, fun i d e => ?_⟩
  · unfold startF L2.start
    simp only [List.length_append, List.length_map, List.length_replicate]
    omega
  · unfold startF at e
    unfold L2.start
    by_cases hi : i < ds.length
    · rw [List.getElem?_append_left (by simpa using hi)] at e
      rw [List.getElem?_append_left (by rw [List.length_map, ← hv]; exact hi)]
      simp only [List.getElem?_map, Option.map_eq_some_iff, Option.some.injEq, exists_eq_right] at e
      obtain ⟨v, hv2, q⟩ := r.get e
      exact ⟨v, by simp [hv2], q⟩
    · rw [List.getElem?_append_right (by simpa using hi)] at e
      rw [List.getElem?_replicate] at e
      split at e <;> cases e
theorem tidy_fin {W : WX} {fz : Bool} {r : Os} {Q : VK} (rs : RS G m H S) (h : Fin G W [] (Rep G) m H (tidy fz S (toR r)) fun _ _ _ H' v => Q v H') (hW : ∀ c d σ σ' H, W c d σ H ↔ W c d σ' H) : FinS G W m H r { nx := fun _ H' => Q .non H', rt := Q } := by
  have val : ∀ {d : D} {S' : Store}, (Fin G W [] (Rep G) m H (tidy fz S (.ok d S')) fun _ _ _ H' v => Q v H') → ∀ m' H' v, Ext m H m' H' → RS G m' H' S' → Rep G m' H' d v → Q v H' := by
    intro d S' h m' H' v x rs' rv
    simp only [tidy] at h
    split at h
    · rename_i hc
      obtain ⟨rs4, x4⟩ := rs'.drop x rs hc
      split at h
      · rename_i hb
        exact h m H' v x4 rs4 (Rep.less x.pre _ _ (by rw [rs.len]; exact hb) rv)
      · rename_i hnb
        split at h
        · split at h
          · rename_i i
            split at h
            · rename_i l el
              split at h
              · rename_i hb
                obtain ⟨p, rfl, hp⟩ := rv.ref_inv
                obtain ⟨p', hp', vs, hv, rl⟩ := rs'.cel _ _ el
                rw [hp] at hp'; cases hp'
                refine h m H' _ x4 rs4 (rep_lst ⟨fun hpm => ?_, .inl hv⟩ (RepL.less x.pre _ _ (by rw [rs.len]; exact hb) rl))
                obtain ⟨j, hj, ej⟩ := List.getElem_of_mem hpm
                have hj2 := pre_get x.pre (List.getElem?_eq_getElem hj)
                rw [ej] at hj2
                obtain ⟨l1, q1⟩ := List.getElem?_eq_some_iff.mp hj2
                obtain ⟨l2, q2⟩ := List.getElem?_eq_some_iff.mp hp
                have ij := (List.getElem_inj rs'.nd).mp (q1.trans q2.symm)
                apply hnb
                simp only [below, decide_eq_true_eq]
                rw [← rs.len, ← ij]
                exact hj
              · exact h m' H' _ x rs' rv
            · exact h m' H' _ x rs' rv
          · exact h m' H' _ x rs' rv
        · exact h m' H' _ x rs' rv
    · exact h m' H' _ x rs' rv
  cases r with
  | nx ρ S' => exact fun m' H' σ' x _ rs' => val h m' H' .non x rs' rep_non
  | rt d S' => exact fun m' H' v x rs' r => val h m' H' v x rs' r
  | bk ρ S' => exact h.elim
  | ct ρ S' => exact h.elim
  | bad => exact h.elim
  | ex c l ρ S' =>
    intro m' H' dx σ' x _ rs' xr
    rw [hW _ _ σ' []]
    simp only [toR, tidy] at h
    split at h
    · rename_i hb
      rw [Bool.and_eq_true] at hb
      obtain ⟨rs4, x4⟩ := rs'.drop x rs hb.1
      obtain ⟨us, hd1, ru, hl⟩ := xr
      exact h m H' dx x4 rs4 ⟨us, hd1, RepL.less x.pre _ _ (by rw [rs.len]; exact hb.2) ru, hl⟩
    · exact h m' H' dx x rs' xr
variable (hd : Hd G) (np : NpOk G) (xd : Xd G) (xm : XMk G) (ff : ∀ f F, G.T.fns[f]? = some F → FnFact G f F)
include hd np xd xm ff
theorem lv_succ (k : Nat) (lv : LvOk G k) (lv1 : ∀ j, k = j + 1 → LvOk G j) : LvOk G (k + 1) := by
  intro f hf
  have eF := List.getElem?_eq_getElem hf
  obtain ⟨x, qual, params, body, scope, N, dvs, kws, FD, FS, hN, hnp, hchk⟩ := ff f _ eF
  refine FD.ok FS (fun vs H Q E h => h.1) fun cdv A outer s H vs Q E hr hsp => ?_
  obtain ⟨hl, m, S, ds, rs, r, h⟩ := hsp
  have W : WX := fun c d _ H => E c d H
  have c : CtxS G k (cxOf (L2.CX G.P G.w) G.P G.w G.K G.mg G.base N qual scope (G.fa f) cdv A outer s H E) ⟨N, scope, none⟩ (fun c d _ H => E c d H) := {
    c := {
      prog := rfl, w := rfl, K := rfl, mg := rfl, base := rfl, N := rfl, nd := FS.nd, sc := rfl
      fn := fun _ _ _ => rfl
      calm := rfl
      tk := takes_of (X := cxOf (L2.CX G.P G.w) G.P G.w G.K G.mg G.base N qual scope (G.fa f) cdv A outer s H E) rfl rfl rfl rfl
      room := hr, lv := lv, lv1 := lv1 }
    po := passes_of (X := cxOf (L2.CX G.P G.w) G.P G.w G.K G.mg G.base N qual scope (G.fa f) cdv A outer s H E) rfl
    stk := rfl, fr := rfl, kd := FS.kind }
  refine ⟨_, okSs hd np xd xm rfl _ _ _ _ _ c hchk, m, startF (G.T.fns[f]).nv ds, S, ?_, rs, ?_⟩
  · refine re_start hN ?_ r
    rw [r.length, hl, np f _ eF]
    exact hnp
  · rw [run_succ] at h
    unfold runB at h
    rw [csOf_T, eF] at h
    simp only at h
    split at h
    · exact tidy_fin (W := fun c d _ H => E c d H) rs h fun _ _ _ _ _ => Iff.rfl
    · exact h.elim
/-- at level 0 nothing runs -/
theorem lv_zero : LvOk G 0 := by
  intro f hf
  have eF := List.getElem?_eq_getElem hf
  obtain ⟨x, qual, params, body, scope, N, dvs, kws, FD, FS, hN, hnp, hchk⟩ := ff f _ eF
  refine ⟨fun vs H Q E h => h.1, fun A outer s H args us vs Q E hr e0 hb r hsp => ?_⟩
  obtain ⟨hl, m, S, ds, rs, rr, h⟩ := hsp
  rw [run_zero] at h
  exact h.elim
theorem lv_all : ∀ k, LvOk G k ∧ ∀ j, k = j + 1 → LvOk G j
  | 0 => ⟨lv_zero hd np xd xm ff, fun j h => by cases h⟩
  | k + 1 => by
    obtain ⟨h1, h2⟩ := lv_all k
    exact ⟨lv_succ hd np xd xm ff k h1 h2, fun j h => by cases h; exact h1⟩
end
end Ev
end
section
set_option maxRecDepth 100000
set_option maxHeartbeats 8000000
/-! Ev, part 20: the head. -/
namespace Ev
open PySem PySem.Spec PyProof.Rows L2 He
/-- a def of the table -/
structure Ent where
  d : DefD
  N : List Str
  ps : List Str
def entD : Ent := ⟨⟨("", none), "", "", ⟨[], [], none, [], [], none, []⟩, [], ⟨.function, [], false, false, []⟩, [], []⟩, [], []⟩
def fdOf (K : PySem.W.Frag) (a : Addr) (e : FuncData) : FuncData := match K.lookup a with
  | some ⟨_, _, .func fd, _⟩ => fd
  | _ => e
def fd0 : FuncData := PySem.W.fnOf "" "" ⟨[], [], none, [], [], none, []⟩ [] ⟨.function, [], false, false, []⟩ .none .none .none .none none .none .none
def mkG (P : Program) (w : World) (K : PySem.W.Frag) (mg : Str → Option Value) (base : Heap) (M : Nm) (T : Tb) (es : List Ent) : Pg where
  P := P
  w := w
  K := K
  mg := mg
  base := base
  M := M
  T := T
  ca := fun c => ga K (M.cls.getD c "")
  xa := fun c => ga K (M.exc.getD c "")
  fa := fun f => fAd K (es.getD f entD).d.at_
  fd := fun f => fdOf K (fAd K (es.getD f entD).d.at_) fd0
  ps := fun f => (es.getD f entD).ps
/-! #### what is checked of the text alone -/
def entB (M : Nm) (F : Fn) (e : Ent) : Bool :=
  decide (e.N.length = F.nv) && (decide (F.np ≤ F.nv) && (decide (e.ps.length = F.np) && (C8.scC e.N e.ps e.d.scope && (e.d.dfl.isEmpty && chkSs M F.body ⟨e.N, e.d.scope, none⟩ e.d.body))))
def entsB (M : Nm) : List Fn → List Ent → Bool
  | [], [] => true
  | F :: fs, e :: es => entB M F e && entsB M fs es
  | _, _ => false
def clB (n : Nat) (C : Cl) : Bool := (match C.init with
  | some f => decide (f < n)
  | none => false) && C.mths.all fun p => decide (p.2 < n)
def textB (M : Nm) (T : Tb) (es : List Ent) : Bool :=
  entsB M T.fns es && (M.atts.all (fun x => decide (x.length < 1000)) && (decide M.atts.Nodup && (decide (M.fns.length = T.fns.length) && (decide (M.cls.length = T.cls.length) && (decide (M.exc.length = T.exc.length) && (decide (M.glb.length = T.glb.length) &&
    (T.cls.all (clB T.fns.length) && M.kws.all fun q => decide (q.1 < T.fns.length))))))))
theorem entsB_get {M : Nm} : ∀ {fs : List Fn} {es : List Ent} {i : Nat} {F : Fn}, entsB M fs es = true → fs[i]? = some F → ∃ e, es[i]? = some e ∧ entB M F e = true
  | [], [], _, _, _, h => by simp at h
  | F :: fs, e :: es, 0, _, c, h => by
    simp only [entsB, Bool.and_eq_true] at c
    simp only [List.getElem?_cons_zero, Option.some.injEq] at h
    subst h
    exact ⟨e, rfl, c.1⟩
  | F :: fs, e :: es, i + 1, _, c, h => by
    simp only [entsB, Bool.and_eq_true] at c
    simp only [List.getElem?_cons_succ] at h ⊢
    exact entsB_get c.2 h
  | [], _ :: _, _, _, c, _ => by simp [entsB] at c
  | _ :: _, [], _, _, c, _ => by simp [entsB] at c
theorem entsB_len {M : Nm} : ∀ {fs : List Fn} {es : List Ent}, entsB M fs es = true → es.length = fs.length
  | [], [], _ => rfl
  | F :: fs, e :: es, c => by
    simp only [entsB, Bool.and_eq_true] at c
    exact congrArg Nat.succ (entsB_len c.2)
  | [], _ :: _, c => by simp [entsB] at c
  | _ :: _, [], c => by simp [entsB] at c
/-! #### what is checked of the written part -/
mutual
def glbB (K : PySem.W.Frag) : D → Value → Bool
  | .non, .none => true
  | .bl b, .bool c => b == c
  | .int i, .int j _ => decide (i = j)
  | .str s, .str x _ => decide (x = ⟨s.toArray⟩)
  | .tup l, .ref a => (match K.lookup a with
    | some ⟨.type c, _, .seq its _, _⟩ => decide (c = "tuple") && (decide (its.size ≤ sizeLine) && glbL K l its.toList)
    | _ => false)
  | _, _ => false
def glbL (K : PySem.W.Frag) : List D → List Value → Bool
  | [], [] => true
  | d :: l, u :: us => glbB K d u && glbL K l us
  | _, _ => false
end
def clsB (K : PySem.W.Frag) (M : Nm) (fa : Nat → Addr) (n c : Nat) (C : Cl) : Bool :=
  let x := M.cls.getD c ""
  let a := ga K x
  (Fa.glo x).ok K && ((Fa.cls x).ok K && ((Fa.mkr x).ok K && (eqO (PySem.W.findIn K (.ref a) "__class__") (some (some (.builtin "object.__class__"))) && (eqO (PySem.W.specialIn K (.builtin "object.__class__") "__get__") (some (some (.builtin "getset_descriptor.__get__"))) &&
    (decide (PySem.W.takesIn K (.builtin "object.__class__") = some true) && (decide (PySem.W.mroIn K a (.type "object") = some true) && ([Bt.int, .bool, .str, .tuple, .list, .dict].all (fun t => decide (PySem.W.kitOne K (.ref a) (.type t.nm) = some false)) &&
    ((List.range n).all (fun k => decide (PySem.W.kitOne K (.ref a) (.ref (ga K (M.cls.getD k ""))) = some (c == k))) && (["NoneType", "bool", "int", "str", "tuple", "list", "dict"].all (fun n => decide (PySem.W.kitOne K (.type n) (.ref a) = some false)) &&
    (C.flds.all (fun f => (Fa.noat x (M.atts.getD f "")).ok K && decide (f < M.atts.length)) && (C.mths.all (fun p => (Fa.meth x (M.atts.getD p.1 "")).ok K && (decide (p.1 < M.atts.length) && decide (ma K a (M.atts.getD p.1 "") = fa p.2))) &&
    (match C.init with
      | some f => decide (ma K a "__init__" = fa f)
      | none => false))))))))))))
def allI {α : Type} (p : Nat → α → Bool) : Nat → List α → Bool
  | _, [] => true
  | i, x :: l => p i x && allI p (i + 1) l
theorem allI_get {α : Type} {p : Nat → α → Bool} : ∀ {l : List α} {k i : Nat} {x : α}, allI p k l = true → l[i]? = some x → p (k + i) x = true
  | [], _, _, _, _, h => by simp at h
  | y :: l, k, 0, x, c, h => by
    simp only [allI, Bool.and_eq_true] at c
    simp only [List.getElem?_cons_zero, Option.some.injEq] at h
    subst h
    exact c.1
  | y :: l, k, i + 1, x, c, h => by
    simp only [allI, Bool.and_eq_true] at c
    simp only [List.getElem?_cons_succ] at h
    have := allI_get c.2 h
    rwa [show k + 1 + i = k + (i + 1) by omega] at this
def excB (K : PySem.W.Frag) (M : Nm) (T : Tb) (c : Nat) (fs : List Nat) : Bool :=
  let x := M.exc.getD c ""
  let a := ga K x
  (Fa.glo x).ok K && (xfB K a && ((List.range T.exc.length).all (fun k => (Fa.exm x (M.exc.getD k "") ((ancOf T c).contains k)).ok K) && fs.all (fun f => eqO (PySem.W.findIn K (.ref a) (M.atts.getD f "")) (some none) && decide (f < M.atts.length))))
def headB (M : Nm) (T : Tb) (es : List Ent) (xB : PySem.W.Frag → Nat → Bool) (K : PySem.W.Frag) : Bool :=
  bltL.all (fun x => (Fa.free x).ok K) && (allI (fun (f : Nat) (x : Str) => decide (x = "") || ((Fa.glo x).ok K && decide ((es.getD f entD).d.at_ = (x, none)))) 0 M.fns && (es.all (fun e => e.d.ok K) &&
    (allI (clsB K M (fun f => fAd K (es.getD f entD).d.at_) T.cls.length) 0 T.cls && (allI (excB K M T) 0 T.exc && (allI (fun (g : Nat) (x : Str) => (match PySem.W.nsIn K mainGlobals x with
      | some (some u) => glbB K (T.glb.getD g .non) u
      | _ => false)) 0 M.glb && (K.all (fun p => !decide (p.2.cls = .type "list")) && (List.range T.exc.length).all (xB K)))))))
/-! #### the Hook -/
def obsX (chk : PySem.W.Frag → Bool) (fn : List DefD) (K : PySem.W.Frag) : AlD := (chk K, fn.map fun d => fnW K d.at_)
def asX (g : Addr → Option Obj) (n : Nat) : List Addr := cStatics :: asD g n
def obsXG (n : Nat) (chk : PySem.W.Frag → Bool) (fn : List DefD) (g : Addr → Option Obj) : AlD := obsX chk fn (frG g (asX g n))
def hookX (n : Nat) (chk : PySem.W.Frag → Bool) (fn : List DefD) : PySem.W.Hook where
  α := AlD
  obs := fun s => obsXG n chk fn s.heap.get?
  val := fun _ => valD fn
  says := fun _ h => ∃ K : PySem.W.Frag, K.In h ∧ obsX chk fn K = valD fn
  of := fun _ _ e => ⟨_, frG_in, e⟩
  keeps := fun _ _ _ ⟨K, hK, c⟩ k => ⟨K, PySem.W.Frag.In.keeps hK k, c⟩
theorem obsXG_eq {n : Nat} {chk : PySem.W.Frag → Bool} {fn : List DefD} {g : Addr → Option Obj} {s : Shared} (h : ∀ a, g a = s.heap.get? a) : obsXG n chk fn g = (hookX n chk fn).obs s := by
  have e : g = s.heap.get? := funext h
  rw [e] <;> rfl
/-- how the values of a call are bound -/
def BnP (e : Ent) : Prop := ∀ (kV doc pm : Value) (an : Option Addr) (cdv ct : Value) (us : List Value), us.length = e.ps.length → bindArgs (PySem.W.fnOf e.d.name e.d.qual e.d.params e.d.body e.d.scope .none kV doc pm an cdv ct) ⟨us, []⟩ = pure (e.ps.zip us)
def BnK (e : Ent) (n : Nat) (ks : List Str) (pmm : List Nat) : Prop := ∀ (kV doc pm : Value) (an : Option Addr) (cdv ct : Value) (us ws : List Value), us.length = n → ws.length = ks.length →
  ∃ xs, pick (us ++ ws) pmm = some xs ∧ bindArgs (PySem.W.fnOf e.d.name e.d.qual e.d.params e.d.body e.d.scope .none kV doc pm an cdv ct) ⟨us, ks.zip ws⟩ = pure (e.ps.zip xs)
def BnC (e : Ent) (n : Nat) (ks : List Str) (pmm : List Nat) : Prop := ∀ (kV doc pm : Value) (an : Option Addr) (cdv ct : Value) (z : Value) (us ws : List Value), us.length = n → ws.length = ks.length →
  ∃ xs, pick (us ++ ws) pmm = some xs ∧ bindArgs (PySem.W.fnOf e.d.name e.d.qual e.d.params e.d.body e.d.scope .none kV doc pm an cdv ct) ⟨z :: us, ks.zip ws⟩ = pure (e.ps.zip (z :: xs))
end Ev
end
section
set_option maxRecDepth 100000
set_option maxHeartbeats 8000000
/-! Ev, part 21: from the checks to the facts. -/
namespace Ev
open PySem PySem.Spec PyProof.Rows L2 He
theorem ban {a b : Bool} (h : (a && b) = true) : a = true ∧ b = true := Bool.and_eq_true_iff.mp h
mutual
theorem glb_ok {G : Pg} : ∀ (d : D) (u : Value), glbB G.K d u = true → ∃ v, RelV v u ∧ ∀ m H, Rep G m H d v
  | .non, u, h => by
    cases u <;> first | (exact ⟨.non, rfl, fun _ _ => rep_non⟩) | (simp [glbB] at h)
  | .bl b, u, h => by
    cases u with
    | bool c =>
      simp only [glbB, beq_iff_eq] at h
      subst h
      exact ⟨.bl b, rfl, fun _ _ => rep_bl⟩
    | _ => simp [glbB] at h
  | .int i, u, h => by
    cases u with
    | int j t =>
      simp only [glbB, decide_eq_true_eq] at h
      subst h
      exact ⟨.int i, ⟨t, rfl⟩, fun _ _ => rep_int⟩
    | _ => simp [glbB] at h
  | .str s, u, h => by
    cases u with
    | str x t =>
      simp only [glbB, decide_eq_true_eq] at h
      subst h
      exact ⟨.str _, ⟨t, rfl⟩, fun _ _ => rep_str⟩
    | _ => simp [glbB] at h
  | .tup l, u, h => by
    cases u with
    | ref a =>
      simp only [glbB] at h
      split at h
      · rename_i c od its n sl e
        obtain ⟨h1, h2⟩ := ban h
        obtain ⟨h3, h4⟩ := ban h2
        obtain ⟨vs, r, q⟩ := glbL_ok l its.toList h4
        exact ⟨.ref a, rfl, fun m H => rep_tup (.inr ⟨_, its, n, e, congrArg Value.type (of_decide_eq_true h1), rfl, of_decide_eq_true h3, r⟩) (q m H)⟩
      · cases h
    | _ => simp [glbB] at h
  | .lst _, u, h => by cases u <;> simp [glbB] at h
  | .ref _, u, h => by cases u <;> simp [glbB] at h
  | .obj _ _, u, h => by cases u <;> simp [glbB] at h
theorem glbL_ok {G : Pg} : ∀ (l : List D) (us : List Value), glbL G.K l us = true → ∃ vs, Vals vs us ∧ ∀ m H, RepL G m H l vs
  | [], [], _ => ⟨[], .nil, fun _ _ => RepL.nil⟩
  | d :: l, u :: us, h => by
    simp only [glbL, Bool.and_eq_true] at h
    obtain ⟨v, r, q⟩ := glb_ok d u h.1
    obtain ⟨vs, rs, qs⟩ := glbL_ok l us h.2
    exact ⟨v :: vs, .cons r rs, fun m H => RepL.cons (q m H) (qs m H)⟩
  | [], _ :: _, h => by simp [glbL] at h
  | _ :: _, [], h => by simp [glbL] at h
end
section
variable {P : Program} {w : World} {K : PySem.W.Frag} {mg : Str → Option Value} {base h : Heap} {M : Nm} {T : Tb} {es : List Ent} {xB : PySem.W.Frag → Nat → Bool}
theorem att_at {i : Nat} (hi : i < M.atts.length) : (mkG P w K mg base M T es).att i = M.atts.getD i "" := by
  have e : M.atts[i]? = some M.atts[i] := List.getElem?_eq_getElem hi
  rw [att_of (G := mkG P w K mg base M T es) (show (mkG P w K mg base M T es).M.atts[i]? = some M.atts[i] from e)]
  rw [List.getD_eq_getElem?_getD, e]; rfl
theorem getD_of {α : Type} {l : List α} {i : Nat} {x d : α} (h : l[i]? = some x) : l.getD i d = x := by
  rw [List.getD_eq_getElem?_getD, h]; rfl
theorem mem_lookup {K : PySem.W.Frag} {a : Addr} {o : Obj} (e : K.lookup a = some o) : (a, o) ∈ K := by
  induction K with
  | nil => cases e
  | cons p K ih =>
    obtain ⟨b, ob⟩ := p
    rw [List.lookup_cons] at e
    split at e
    · rename_i hb
      cases e
      rw [beq_iff_eq] at hb
      subst hb
      exact List.mem_cons_self ..
    · exact List.mem_cons_of_mem _ (ih e)
theorem look_mem {α : Type} {f : Nat} {x : α} : ∀ {l : List (Nat × α)}, lookN f l = some x → (f, x) ∈ l
  | [], h => by simp [lookN] at h
  | (g, y) :: r, h => by
    simp only [lookN] at h
    split at h
    · rename_i e
      cases h
      subst e
      exact List.mem_cons_self ..
    · exact List.mem_cons_of_mem _ (look_mem h)
/-- all that is known at the head -/
structure AllK (P : Program) (w : World) (K : PySem.W.Frag) (mg : Str → Option Value) (base h : Heap) (M : Nm) (T : Tb) (es : List Ent) (xB : PySem.W.Frag → Nat → Bool) : Prop where
  X : K.In h
  N : h.Ns mainGlobals mg
  t : textB M T es = true
  k : headB M T es xB K = true
  fnw : es.map (fun e => fnW K e.d.at_) = es.map fun e => e.d.val
theorem AllK.funD (c : AllK P w K mg base h M T es xB) {f : Nat} {e : Ent} (he : es[f]? = some e) : FunD K e.d.name e.d.qual e.d.params e.d.body e.d.scope (e.d.dvs K) (e.d.kws K) (fAd K e.d.at_) ((mkG P w K mg base M T es).fd f) := by
  have hk := c.k
  unfold headB at hk
  obtain ⟨_, hk⟩ := ban hk
  obtain ⟨_, hk⟩ := ban hk
  obtain ⟨hes, _⟩ := ban hk
  have e1 := List.all_eq_true.mp hes e (List.mem_of_getElem? he)
  have e2 : (es.map fun e => fnW K e.d.at_)[f]? = (es.map fun e => e.d.val)[f]? := by rw [c.fnw]
  rw [List.getElem?_map, List.getElem?_map, he] at e2
  obtain ⟨fd, F⟩ := DefD.funD (Option.some.inj e2) e1
  have : (mkG P w K mg base M T es).fd f = fd := by
    obtain ⟨oc, od, dV, kV, doc, pm, an, cdv, ct, osl, e3, lk, _⟩ := F.ex
    show fdOf K (fAd K (es.getD f entD).d.at_) fd0 = fd
    rw [getD_of he]
    unfold fdOf
    rw [lk]
  rw [this]
  exact F
theorem AllK.ent (c : AllK P w K mg base h M T es xB) {f : Nat} {F : Fn} (hF : T.fns[f]? = some F) : ∃ e, es[f]? = some e ∧ e.N.length = F.nv ∧ F.np ≤ F.nv ∧ e.ps.length = F.np ∧ FnScope e.N e.ps e.d.scope ∧ e.d.dfl = [] ∧ chkSs M F.body ⟨e.N, e.d.scope, none⟩ e.d.body = true := by
  have ht := c.t
  unfold textB at ht
  obtain ⟨h1, _⟩ := ban ht
  obtain ⟨e, he, q⟩ := entsB_get h1 hF
  unfold entB at q
  obtain ⟨q1, q⟩ := ban q
  obtain ⟨q2, q⟩ := ban q
  obtain ⟨q3, q⟩ := ban q
  obtain ⟨q4, q⟩ := ban q
  obtain ⟨q5, q6⟩ := ban q
  exact ⟨e, he, of_decide_eq_true q1, of_decide_eq_true q2, of_decide_eq_true q3, C8.fnScope_by q4, List.isEmpty_iff.mp q5, q6⟩
theorem AllK.ff (c : AllK P w K mg base h M T es xB) (f : Nat) (F : Fn) (hF : (mkG P w K mg base M T es).T.fns[f]? = some F) : FnFact (mkG P w K mg base M T es) f F := by
  obtain ⟨e, he, h1, h2, h3, h4, h5, h6⟩ := c.ent hF
  refine ⟨e.d.name, e.d.qual, e.d.params, e.d.body, e.d.scope, e.N, e.d.dvs K, e.d.kws K, ?_, ?_, h1, h2, h6⟩
  · have := c.funD he
    show FunD K _ _ _ _ _ _ _ (fAd K (es.getD f entD).d.at_) _
    rw [getD_of he]
    exact this
  · show FnScope e.N (es.getD f entD).ps e.d.scope
    rw [getD_of he]
    exact h4
theorem AllK.np (c : AllK P w K mg base h M T es xB) : NpOk (mkG P w K mg base M T es) := fun f F hF => by
  obtain ⟨e, he, h1, h2, h3, h4, h5, h6⟩ := c.ent hF
  show (es.getD f entD).ps.length = F.np
  rw [getD_of he]
  exact h3
theorem AllK.hd (c : AllK P w K mg base h M T es xB) (bp : ∀ e ∈ es, BnP e) (bk : ∀ f n ks pm, (f, n, ks, pm) ∈ M.kws → ∀ e, es[f]? = some e → BnK e n ks pm)
    (bc : ∀ k n ks pm C f, (k, n, ks, pm) ∈ M.ckw → T.cls[k]? = some C → C.init = some f → ∀ e, es[f]? = some e → BnC e n ks pm) : Hd (mkG P w K mg base M T es) := by
  have ht := c.t
  unfold textB at ht
  obtain ⟨t1, ht⟩ := ban ht
  obtain ⟨t2, ht⟩ := ban ht
  obtain ⟨t3, ht⟩ := ban ht
  obtain ⟨t4, ht⟩ := ban ht
  obtain ⟨t5, ht⟩ := ban ht
  obtain ⟨t6, ht⟩ := ban ht
  obtain ⟨t7, ht⟩ := ban ht
  obtain ⟨t8, t9⟩ := ban ht
  have l4 : M.fns.length = T.fns.length := of_decide_eq_true t4
  have l5 : M.cls.length = T.cls.length := of_decide_eq_true t5
  have hk := c.k
  unfold headB at hk
  obtain ⟨k1, hk⟩ := ban hk
  obtain ⟨k2, hk⟩ := ban hk
  obtain ⟨k3, hk⟩ := ban hk
  obtain ⟨k4, hk⟩ := ban hk
  obtain ⟨k5, hk⟩ := ban hk
  obtain ⟨k6, hk⟩ := ban hk
  have clsI : ∀ {k : Nat} {C : Cl}, T.cls[k]? = some C → clsB K M (fun f => fAd K (es.getD f entD).d.at_) T.cls.length k C = true := fun {k C} h => by
    have := allI_get k4 h
    rwa [Nat.zero_add] at this
  have bind : ∀ {f : Nat} {e : Ent} {us : List Value} {kw : List (Str × Value)} {bs : List (Str × Value)} {s : Shared}, es[f]? = some e → e.d.dfl = [] → (∀ (kV doc pm : Value) (an : Option Addr) (cdv ct : Value), bindArgs (PySem.W.fnOf e.d.name e.d.qual e.d.params e.d.body e.d.scope .none kV doc pm an cdv ct) ⟨us, kw⟩ = pure bs) → BindsTo s ((mkG P w K mg base M T es).fd f) ⟨us, kw⟩ bs := fun {f e us kw bs s} he hd q => by
    have F := c.funD he
    obtain ⟨oc, od, dV, kV, doc, pm, an, cdv, ct, osl, e3, lk, _, hD, _⟩ := F.ex
    rw [e3]
    have hdv : dV = .none := by
      rcases hD with ⟨_, q⟩ | ⟨q, _⟩
      · exact q
      · exact absurd (by show e.d.dfl.map _ = []; rw [hd]; rfl) q
    rw [hdv]
    exact .of_eq (q kV doc pm an cdv ct)
  refine { cls := fun k hk => ?_, mgb := fun x hx => free_ok c.X c.N (List.all_eq_true.mp k1 x hx), atl := fun x hx => of_decide_eq_true (List.all_eq_true.mp t2 x hx), atn := of_decide_eq_true t3, fn := fun f x hx hne => ?_, fnl := fun f hf => l4 ▸ hf, pos := fun f hf => ?_, kw := fun f n ks pm hm => ?_, ckw := fun k n ks pm C f hm hC hi => ?_, na := fun k f hf => ?_, glb := fun g x hx => ?_, cmg := fun k x hx => ?_, ini := fun k C hC => ?_, mak := fun k C f hC hi => ?_, mth := fun k C a f hC hl => ?_ }
  · have hk' : k < T.cls.length := hk
    have q := clsI (List.getElem?_eq_getElem hk')
    unfold clsB at q
    obtain ⟨q1, q⟩ := ban q
    obtain ⟨q2, q⟩ := ban q
    obtain ⟨q3, q⟩ := ban q
    obtain ⟨q4, q⟩ := ban q
    obtain ⟨q5, q⟩ := ban q
    obtain ⟨q6, q⟩ := ban q
    obtain ⟨q7, q⟩ := ban q
    obtain ⟨q8, q⟩ := ban q
    obtain ⟨q9, q⟩ := ban q
    obtain ⟨q10, q⟩ := ban q
    exact {
      cls := cls_ok q2, ga := eqO_ok q4, gs := eqO_ok q5, tk := of_decide_eq_true q6, mo := of_decide_eq_true q7
      bt := fun t => of_decide_eq_true (List.all_eq_true.mp q8 t (by cases t <;> simp))
      oc := fun j hj => of_decide_eq_true (List.all_eq_true.mp q9 j (List.mem_range.mpr hj))
      ty := fun n hn => of_decide_eq_true (List.all_eq_true.mp q10 n hn) }
  · have q := allI_get k2 hx
    rw [Nat.zero_add, Bool.or_eq_true] at q
    rcases q with q | q
    · exact absurd (of_decide_eq_true q) hne
    · obtain ⟨q1, q2⟩ := ban q
      have q2 := of_decide_eq_true q2
      have hf : f < es.length := by
        rw [entsB_len t1, ← l4]
        exact (List.getElem?_eq_some_iff.mp hx).1
      have he : es[f]? = some es[f] := List.getElem?_eq_getElem hf
      have hok := List.all_eq_true.mp k3 es[f] (List.mem_of_getElem? he)
      obtain ⟨kp, _⟩ := ban hok
      refine ⟨?_, ?_⟩
      · show mg x = some (.ref (fAd K (es.getD f entD).d.at_))
        rw [q2]
        exact glo_ok c.X c.N q1
      · show PySem.W.keepIn K (.ref (fAd K (es.getD f entD).d.at_)) = true
        rw [getD_of he]
        exact kp
  · obtain ⟨e, he, h1, h2, h3, h4, h5, h6⟩ := c.ent (List.getElem?_eq_getElem (show f < T.fns.length from hf))
    intro s us _ hl
    have hl : (us ++ []).length = (es.getD f entD).ps.length := hl
    rw [getD_of he] at hl
    show BindsTo s _ ⟨us, []⟩ ((es.getD f entD).ps.zip (us ++ []))
    rw [getD_of he]
    rw [app_nil] at hl ⊢
    exact bind he h5 fun kV doc pm an cdv ct => bp e (List.mem_of_getElem? he) kV doc pm an cdv ct us hl
  · have hf : f < T.fns.length := of_decide_eq_true (List.all_eq_true.mp t9 _ hm)
    refine ⟨hf, ?_⟩
    obtain ⟨e, he, h1, h2, h3, h4, h5, h6⟩ := c.ent (List.getElem?_eq_getElem hf)
    intro s us ws _ hl1 hl2
    obtain ⟨xs, e1, _⟩ := bk f n ks pm hm e he .none .none .none none .none .none us ws hl1 hl2
    refine ⟨xs, e1, ?_⟩
    show BindsTo s _ ⟨us, ks.zip ws⟩ ((es.getD f entD).ps.zip xs)
    rw [getD_of he]
    refine bind he h5 fun kV doc pm' an cdv ct => ?_
    obtain ⟨xs', e1', q⟩ := bk f n ks pm hm e he kV doc pm' an cdv ct us ws hl1 hl2
    rw [e1] at e1'; cases e1'
    exact q
  · have hC' := List.all_eq_true.mp t8 C (List.mem_of_getElem? hC)
    unfold clB at hC'
    rw [hi] at hC'
    obtain ⟨hf, _⟩ := ban hC'
    have hf := of_decide_eq_true hf
    obtain ⟨e, he, h1, h2, h3, h4, h5, h6⟩ := c.ent (List.getElem?_eq_getElem hf)
    intro s z us ws _ hl1 hl2
    obtain ⟨xs, e1, _⟩ := bc k n ks pm C f hm hC hi e he .none .none .none none .none .none z us ws hl1 hl2
    refine ⟨xs, e1, ?_⟩
    show BindsTo s _ ⟨z :: us, ks.zip ws⟩ ((es.getD f entD).ps.zip (z :: xs))
    rw [getD_of he]
    refine bind he h5 fun kV doc pm' an cdv ct => ?_
    obtain ⟨xs', e1', q⟩ := bc k n ks pm C f hm hC hi e he kV doc pm' an cdv ct z us ws hl1 hl2
    rw [e1] at e1'; cases e1'
    exact q
  · have hk' := cls_lt hf
    have q := clsI (List.getElem?_eq_getElem (show k < T.cls.length from hk'))
    unfold clsB at q
    obtain ⟨q1, q⟩ := ban q
    obtain ⟨q2, q⟩ := ban q
    obtain ⟨q3, q⟩ := ban q
    obtain ⟨q4, q⟩ := ban q
    obtain ⟨q5, q⟩ := ban q
    obtain ⟨q6, q⟩ := ban q
    obtain ⟨q7, q⟩ := ban q
    obtain ⟨q8, q⟩ := ban q
    obtain ⟨q9, q⟩ := ban q
    obtain ⟨q10, q⟩ := ban q
    obtain ⟨q11, q⟩ := ban q
    have hfm : f ∈ T.cls[k].flds := by
      have hf2 : (fldsOf T k).contains f = true := hf
      unfold fldsOf at hf2
      rw [List.getElem?_eq_getElem (show k < T.cls.length from hk')] at hf2
      exact List.contains_iff_mem.mp hf2
    obtain ⟨r1, r2⟩ := ban (List.all_eq_true.mp q11 f hfm)
    show NoAttr K (ga K (M.cls.getD k "")) _
    rw [att_at (of_decide_eq_true r2)]
    exact noat_ok r1
  · have q := allI_get k6 hx
    rw [Nat.zero_add] at q
    have hg : g < T.glb.length := by
      rw [← of_decide_eq_true t7]
      exact (List.getElem?_eq_some_iff.mp hx).1
    refine ⟨T.glb[g], List.getElem?_eq_getElem hg, ?_⟩
    rw [getD_of (List.getElem?_eq_getElem hg)] at q
    split at q
    · rename_i u e
      obtain ⟨v, r, rp⟩ := glb_ok (G := mkG P w K mg base M T es) T.glb[g] u q
      exact ⟨u, v, PySem.W.mg_of c.X c.N e, r, rp⟩
    · cases q
  · have hk' : k < T.cls.length := by
      rw [← l5]
      exact (List.getElem?_eq_some_iff.mp hx).1
    refine ⟨hk', ?_⟩
    have q := clsI (List.getElem?_eq_getElem hk')
    unfold clsB at q
    obtain ⟨q1, q⟩ := ban q
    have hx' : M.cls[k]? = some x := hx
    show mg x = some (.ref (ga K (M.cls.getD k "")))
    have e := getD_of (d := ("" : Str)) hx'
    rw [e] at q1 ⊢
    exact glo_ok c.X c.N q1
  · have hC' := List.all_eq_true.mp t8 C (List.mem_of_getElem? hC)
    unfold clB at hC'
    obtain ⟨hf, _⟩ := ban hC'
    cases hi : C.init with
    | none => rw [hi] at hf; cases hf
    | some f => exact ⟨f, rfl⟩
  · have hC' := List.all_eq_true.mp t8 C (List.mem_of_getElem? hC)
    unfold clB at hC'
    rw [hi] at hC'
    obtain ⟨hf, _⟩ := ban hC'
    have hf := of_decide_eq_true hf
    refine ⟨hf, ?_⟩
    have q := clsI hC
    unfold clsB at q
    obtain ⟨q1, q⟩ := ban q
    obtain ⟨q2, q⟩ := ban q
    obtain ⟨q3, q⟩ := ban q
    obtain ⟨q4, q⟩ := ban q
    obtain ⟨q5, q⟩ := ban q
    obtain ⟨q6, q⟩ := ban q
    obtain ⟨q7, q⟩ := ban q
    obtain ⟨q8, q⟩ := ban q
    obtain ⟨q9, q⟩ := ban q
    obtain ⟨q10, q⟩ := ban q
    obtain ⟨q11, q⟩ := ban q
    obtain ⟨q12, q13⟩ := ban q
    rw [hi] at q13
    have := mkr_ok q3
    rw [of_decide_eq_true q13] at this
    exact this
  · have q := clsI hC
    unfold clsB at q
    obtain ⟨q1, q⟩ := ban q
    obtain ⟨q2, q⟩ := ban q
    obtain ⟨q3, q⟩ := ban q
    obtain ⟨q4, q⟩ := ban q
    obtain ⟨q5, q⟩ := ban q
    obtain ⟨q6, q⟩ := ban q
    obtain ⟨q7, q⟩ := ban q
    obtain ⟨q8, q⟩ := ban q
    obtain ⟨q9, q⟩ := ban q
    obtain ⟨q10, q⟩ := ban q
    obtain ⟨q11, q⟩ := ban q
    obtain ⟨q12, q13⟩ := ban q
    have hm := look_mem hl
    have hC' := List.all_eq_true.mp t8 C (List.mem_of_getElem? hC)
    unfold clB at hC'
    obtain ⟨_, hms⟩ := ban hC'
    refine ⟨of_decide_eq_true (List.all_eq_true.mp hms (a, f) hm), ?_⟩
    obtain ⟨r1, r⟩ := ban (List.all_eq_true.mp q12 (a, f) hm)
    obtain ⟨r2, r3⟩ := ban r
    show Meth K (ga K (M.cls.getD k "")) _ _
    rw [att_at (of_decide_eq_true r2)]
    have := meth_ok r1
    rw [of_decide_eq_true r3] at this
    exact this
theorem AllK.xd (c : AllK P w K mg base h M T es xB) : Xd (mkG P w K mg base M T es) := by
  have ht := c.t
  unfold textB at ht
  obtain ⟨t1, ht⟩ := ban ht
  obtain ⟨t2, ht⟩ := ban ht
  obtain ⟨t3, ht⟩ := ban ht
  obtain ⟨t4, ht⟩ := ban ht
  obtain ⟨t5, ht⟩ := ban ht
  obtain ⟨t6, ht⟩ := ban ht
  have l6 : M.exc.length = T.exc.length := of_decide_eq_true t6
  have hk := c.k
  unfold headB at hk
  obtain ⟨k1, hk⟩ := ban hk
  obtain ⟨k2, hk⟩ := ban hk
  obtain ⟨k3, hk⟩ := ban hk
  obtain ⟨k4, hk⟩ := ban hk
  obtain ⟨k5, hk⟩ := ban hk
  have excI : ∀ {k : Nat} {fs : List Nat}, T.exc[k]? = some fs → excB K M T k fs = true := fun {k fs} h => by
    have := allI_get k5 h
    rwa [Nat.zero_add] at this
  refine { mg := fun k x hx => ?_, exm := fun k j hk hj => ?_, xf := fun k hk => ?_ }
  · have hx' : M.exc[k]? = some x := hx
    have hk' : k < T.exc.length := by
      rw [← l6]
      exact (List.getElem?_eq_some_iff.mp hx').1
    have q := excI (List.getElem?_eq_getElem hk')
    unfold excB at q
    obtain ⟨q1, q⟩ := ban q
    refine ⟨?_, hk'⟩
    show mg x = some (.ref (ga K (M.exc.getD k "")))
    have e := getD_of (d := ("" : Str)) hx'
    rw [e] at q1 ⊢
    exact glo_ok c.X c.N q1
  · have q := excI (List.getElem?_eq_getElem (show k < T.exc.length from hk))
    unfold excB at q
    obtain ⟨q1, q⟩ := ban q
    obtain ⟨q2, q⟩ := ban q
    obtain ⟨q3, q⟩ := ban q
    exact exm_ok (List.all_eq_true.mp q3 j (List.mem_range.mpr hj))
  · have hk' : k < T.exc.length := hk
    have q := excI (List.getElem?_eq_getElem hk')
    unfold excB at q
    obtain ⟨q1, q⟩ := ban q
    obtain ⟨q2, q⟩ := ban q
    obtain ⟨q3, q4⟩ := ban q
    refine ⟨xfB_ok q2, fun f hf => ?_⟩
    have hf' : f ∈ T.exc[k] := by
      have : f ∈ T.exc.getD k [] := hf
      rwa [getD_of (List.getElem?_eq_getElem hk')] at this
    obtain ⟨r1, r2⟩ := ban (List.all_eq_true.mp q4 f hf')
    show PySem.W.findIn K (.ref (ga K (M.exc.getD k ""))) _ = _
    rw [att_at (of_decide_eq_true r2)]
    exact eqO_ok r1
theorem AllK.noL (c : AllK P w K mg base h M T es xB) : ∀ a o, K.lookup a = some o → o.cls ≠ .type "list" := by
  have hk := c.k
  unfold headB at hk
  obtain ⟨k1, hk⟩ := ban hk
  obtain ⟨k2, hk⟩ := ban hk
  obtain ⟨k3, hk⟩ := ban hk
  obtain ⟨k4, hk⟩ := ban hk
  obtain ⟨k5, hk⟩ := ban hk
  obtain ⟨k6, hk⟩ := ban hk
  obtain ⟨k7, hk⟩ := ban hk
  intro a o e hc
  have hm : (a, o) ∈ K := mem_lookup e
  have := List.all_eq_true.mp k7 (a, o) hm
  simp only [hc, decide_true, Bool.not_true] at this
  cases this
theorem AllK.xbs (c : AllK P w K mg base h M T es xB) : ∀ k, k < T.exc.length → xB K k = true := by
  have hk := c.k
  unfold headB at hk
  obtain ⟨k1, hk⟩ := ban hk
  obtain ⟨k2, hk⟩ := ban hk
  obtain ⟨k3, hk⟩ := ban hk
  obtain ⟨k4, hk⟩ := ban hk
  obtain ⟨k5, hk⟩ := ban hk
  obtain ⟨k6, hk⟩ := ban hk
  obtain ⟨k7, k8⟩ := ban hk
  exact fun k hk => List.all_eq_true.mp k8 k (List.mem_range.mpr hk)
end
/-! #### the law -/
/-- the script stands -/
theorem rep_script {G : Pg} {H : Hp} {a : Addr} {ns : List Int} (hS : SqL G.K H a (ns.map V.int)) (no : ∀ a o, G.K.lookup a = some o → o.cls ≠ .type "list") : Rep G [] H (.lst (ns.map .int)) (.ref a) := by
  rcases hS with h | ⟨o, its, n, e, hc, _⟩
  · exact rep_lst ⟨by simp, h⟩ (repInts ns)
  · exact absurd hc (no a o e)
theorem rs_nil {G : Pg} {H : Hp} : RS G [] H [] := ⟨rfl, List.nodup_nil, fun n c e => by simp at e⟩
/-- what is asked of the evaluator -/
def Asked (T : Tb) (n f : Nat) : Prop := ∀ ns : List Int, ns.length ≤ 63 → ∃ S, run T n f [.lst (ns.map .int)] [] = .ok (.bl true) S
theorem law_sp {G : Pg} {n f : Nat} (hps : (G.ps f).length = 1) (no : ∀ a o, G.K.lookup a = some o → o.cls ≠ .type "list") (hA : Asked G.T n f) (H : Hp) (a : Addr) (ns : List Int) (hl : ns.length ≤ 63) (hS : SqL G.K H a (ns.map V.int)) :
    spF G n f [.ref a] H (fun v _ => v = .bl true) fun _ _ _ => False := by
  refine ⟨hps.symm, [], [], [.lst (ns.map .int)], rs_nil, RepL.cons (rep_script hS no) RepL.nil, ?_⟩
  obtain ⟨S, e⟩ := hA ns hl
  rw [e]
  exact fun m' H' v _ _ r => r.bl_inv
end Ev
end
section
set_option maxRecDepth 100000
set_option maxHeartbeats 8000000
/-! Ev, part 22: an own exception is made: its __init__ hands the value to ValueError and keeps it. -/
namespace Ev
open PySem PySem.Spec PyProof.Rows PySem.Calls
open PySem.W (kxs_mw KxsFacts kxs_ValueError kxs_getMethod kxs_callWith KxsAt ks_superIn fnX envX excInitIn)
/-- the two statements of such an __init__ -/
def initB (v f : Str) : List Stmt → Bool
  | [.Expr (.Call (.Attribute (.Call (.Name a _) [] [] _) b q) [.Name c _] [] r) _, .Assign [.Attribute (.Name d _) e _] (.Name g _) _] =>
    decide (a = "super") && (decide (b = "__init__") && ((q.endLine == r.line) && (decide (c = v) && (decide (d = "self") && (decide (e = f) && decide (g = v))))))
  | _ => false
/-- the scope of such an __init__ -/
def initS (v : Str) (sc : Scope) : Bool :=
  decide (sc.kind = .function) && (!sc.isCoroutine && (!sc.isGenerator && (sc.names.all (fun y => !decide (y.2 = .cell)) && (decide (sc.names.lookup ("self" : Str) = some .local) && (decide (sc.names.lookup v = some .local) && (decide (sc.names.lookup ("super" : Str) = some .globalImplicit) &&
    (decide (sc.names.lookup ("__class__" : Str) = some .free) && (!(v == ("__debug__" : Str)) && !(v == ("self" : Str))))))))))
/-- its parameters: self, v -/
def initP (v : Str) (p : Arguments) : Bool := match p with
  | ⟨[], [a, b], none, [], [], none, []⟩ => decide (a.arg = "self") && decide (b.arg = v)
  | _ => false
theorem bind_two {name qual v : Str} {p : Arguments} {body : List Stmt} {scope : Scope} {cl : List (Str × Addr)} {kV doc pm cdv ct : Value} {an : Option Addr} {a u : Value} (h : initP v p = true) (hv : (v == ("self" : Str)) = false) :
    bindArgs (fnX name qual p body scope cl .none kV doc pm an cdv ct) ⟨[a, u], []⟩ = pure [(("self" : Str), a), (v, u)] := by
  unfold initP at h
  split at h
  · rename_i x y
    simp only [Bool.and_eq_true, decide_eq_true_eq] at h
    obtain ⟨h1, h2⟩ := h
    obtain ⟨xa, xn, xp, xt⟩ := x
    obtain ⟨ya, yn, yp, yt⟩ := y
    simp only at h1 h2
    subst h1 h2
    unfold bindArgs
    simp [seqItems?, List.lookup, hv]
    rfl
  · cases h
/-- an exception, its dict -/
abbrev xob (C t0 : Addr) (dd : Option Addr) : Obj := { cls := .ref C, dict := dd, data := .fields #[.ref t0, .none, .none, .none, .bool false, .none] }
section
variable {prog : Program} {w : World} {A : Around} {E : Value → Shared → Prop} {h : Heap} {g : Array GenState} {d : Drawn} {t : Nat} {os : OsState}
variable {nm q : Str} {C N : Addr} {bs bm : List Value} {hdct : Bool} {sn : List Str} {sub : List Value} {ab : Bool} {col : Option Bool} {dd : Option Addr} {k0 k1 k2 k3 k5 : Option Value}
/-- ValueError.__init__, bound, called -/
theorem call_mw {u e t0 : Addr} {rest : List Value} {Q : Value → Shared → Prop} (hC : h.get? C = some (excClassObj nm q C N bs bm hdct sn sub ab col dd k0 k1 k2 k3 k5 "ValueError.__new__")) (he : h.get? e = some (xob C t0 none)) (hu : h.get? u = some (kxs_mw "ValueError.__init__" e)) (hrest : rest.length ≤ sizeLine)
    (hq : ∀ h' t1, (∀ b o, b ≠ e → h.get? b = some o → h'.get? b = some o) → h'.get? e = some (xob C t1 none) → Q .none ⟨h', g, d, t, os⟩) :
    wpAny (model prog w) A (call (.ref u) rest) Q E ⟨h, g, d, t, os⟩ := by
  have FB := F.excBase_ValueError
  refine wpAny_call (codeAny_of_tree ?_)
  show wpAny _ A.in1 (callAny (.ref u) ⟨rest, []⟩) _ _ _
  simp only [callAny]
  refine wpAny_bind (wpAny_load hu ?_)
  simp only [kxs_mw, show (Value.type "method-wrapper" == Value.type "method" || Value.type "method-wrapper" == Value.type "builtin_function_or_method" || Value.type "method-wrapper" == Value.type "method-wrapper") = true by decide, if_true]
  refine PySem.W.KFB.if_so (by decide) ?_
  refine wpAny_bind (PySem.W.check_bound_init FB.toExcCallFacts hC he rfl ?_)
  refine wpAny_bind (wpAny_pure (wpAny_pure ?_))
  refine ⟨plainId_quiet FB.init.plain _, codeAny_builtin FB.initEntry ?_⟩
  exact PySem.W.exc_init_tree (cls := .ref C) (t0 := t0) (dv := none) (c2 := .none) (c3 := .none) (b4 := .bool false) he hrest fun h' k e' _ => hq h' _ k e'
end
/-- what of such a class and its __init__ is known -/
structure ExI (P : Program) (K : PySem.W.Frag) (C fI cc cda : Addr) (v f qual : Str) (params : Arguments) (body : List Stmt) (scope : Scope) (cdv : Value) (fd : FuncData) : Prop where
  fnK : ∃ oc od osl name kV doc pm an ct, fd = fnX name qual params body scope [("__class__", cc)] .none kV doc pm an cdv ct ∧ K.lookup fI = some ⟨oc, od, .func fd, osl⟩
  code : PySem.W.codeIn K cdv qual = true
  cda : cdv = .ref cda ∧ ∃ ccl cdd vs ccs file tf, K.lookup cda = some ⟨ccl, cdd, .fields vs, ccs⟩ ∧ vs[2]? = some (.str file tf) ∧ ((P.main.file : Str) == file) = true
  cell : ∃ cl cld csl, K.lookup cc = some ⟨cl, cld, .cell (some (.ref C)), csl⟩
  ex : excInitIn K C He.veBase "ValueError.__new__" = true
  mro : ∃ cd, PySem.W.clsIn K C = some cd ∧ PySem.HandSPX.refsVE cd.mro = true ∧ cd.hasDict = true
  self : PySem.W.mroIn K C (.ref C) = some true
  sup : ks_superIn K C C "__init__" = some (some (.builtin "ValueError.__init__"))
  ve : PySem.W.subIn K (.ref C) (.type "ValueError") = some true
  sg : PySem.W.nsIn K mainGlobals "super" = some none
  st : PySem.W.nsIn K cStatics "thirdparty.any" = some none
  sa : PySem.W.findIn K (.ref C) "__setattr__" = some (some (.builtin "object.__setattr__"))
  no : PySem.W.findIn K (.ref C) f = some none
  pr : initP v params = true
  bd : initB v f body = true
  sc : initS v scope = true
  top : (P.main.scope.names.lookup ("super" : Str)).isSome = false
section
variable {P : Program} {w : World} {A : Around} {K : PySem.W.Frag} {C fI cc cda : Addr} {v f qual : Str} {params : Arguments} {body : List Stmt} {scope : Scope} {cdv : Value} {fd : FuncData} {R : Result → Shared → Prop} {s : Shared} {a t0 : Addr} {u : Value} {mg mb : Str → Option Value}
theorem init_run (X : ExI P K C fI cc cda v f qual params body scope cdv fd) (KX : K.In s.heap) (hroom : A.depth < recursionLimit) (hlim : s.heap.NoLimit) (hg : s.heap.Ns mainGlobals mg) (hb : s.heap.Ns builtinsNs mb) (hbb : ∀ x : Str, x ≠ "__name__" → mb x = bootBuiltins x)
    (ha : s.heap.get? a = some (xob C t0 none)) (haK : K.lookup a = none)
    (hq : ∀ h' tk' dx t1, (∀ b o, b ≠ a → s.heap.get? b = some o → h'.get? b = some o) → s.heap.get? dx = none → dx ≠ a → h'.get? a = some (xob C t1 (some dx)) → h'.Ns1 dx (fun y => if y = f then some u else none) → R (.ok (.ret .none)) { s with heap := h', toks := tk' }) :
    codeAny (model P w) A (.call (.ref fI) ⟨[.ref a, u], []⟩) R s := by
  obtain ⟨oc, od, osl, name, kV, doc, pm, an, ct, efd, lk⟩ := X.fnK
  obtain ⟨ecd, ccl, cdd, vs, ccs, file, tf, lcd, hvs, hfile⟩ := X.cda
  obtain ⟨cl, cld, csl, lcell⟩ := X.cell
  obtain ⟨cd, hcd, hmro, hhd⟩ := X.mro
  have sc := X.sc
  unfold initS at sc
  simp only [Bool.and_eq_true, Bool.not_eq_true', decide_eq_true_eq] at sc
  obtain ⟨sk, sco, sge, sce, sse, sv, ssu, scl, sdb, sne⟩ := sc
  have hkind : ∀ {x : Str} {L : Addr}, (callEnv fd L fI).kindOf x = scope.names.lookup x := fun {x L} => by subst efd; rfl
  have hcell : ∀ x ∈ fd.scope.names, x.2 ≠ .cell := by
    subst efd
    intro x hx e
    have := List.all_eq_true.mp sce x hx
    simp [e] at this
  refine ks_codeAny_call_defAt (fd := fd) (body := body) (binds := [(("self" : Str), .ref a), (v, u)]) hroom (KX _ _ lk) rfl hlim (by subst efd; exact PySem.W.codeRec_of KX X.code) (by subst efd; rfl) (.of_eq (by subst efd; exact bind_two X.pr sne)) hcell ?_ (fun h₁ hns hk => ?_) (by subst efd; exact sco) (by subst efd; exact sge) (by subst efd; exact sk)
  · intro x hx
    subst efd
    simp only [List.mem_cons, List.not_mem_nil, or_false] at hx
    rcases hx with rfl | rfl
    · exact sse
    · exact sv
  -- the body's two statements
  have hbd := X.bd
  unfold initB at hbd
  split at hbd
  case h_2 => cases hbd
  rename_i nsup p0 p1 nini p2 nv p3 p4 p5 nself p6 nf p7 nv2 p8 p9
  simp only [Bool.and_eq_true, decide_eq_true_eq] at hbd
  obtain ⟨e1, e2, hline, e3, e4, e5, e6⟩ := hbd
  subst e1 e2 e3 e4 e5 e6
  obtain ⟨ar, hpar, har⟩ : ∃ ar, (params.posonlyargs ++ params.args).head? = some ar ∧ ar.arg = ("self" : Str) := by
    have hp := X.pr
    unfold initP at hp
    split at hp
    · rename_i x y
      simp only [Bool.and_eq_true, decide_eq_true_eq] at hp
      exact ⟨x, rfl, hp.1⟩
    · cases hp
  obtain ⟨hh, gg, dr, tk, os⟩ := s
  have K1 : K.In h₁ := fun b o e => hk b o (KX b o e)
  have ha1 : h₁.get? a = some (xob C t0 none) := hk _ _ ha
  have hv1 : ([(("self" : Str), Value.ref a), (nv2, u)] : List (Str × Value)).reverse.lookup ("self" : Str) = some (.ref a) := by
    simp [List.lookup, show (("self" : Str) == nv2) = false from by rw [beq_eq_false_iff_ne] at sne ⊢; exact fun z => sne z.symm]
  have hv2 : ([(("self" : Str), Value.ref a), (nv2, u)] : List (Str × Value)).reverse.lookup nv2 = some u := by
    simp [List.lookup]
  have hsz : ∀ b o, hh.get? b = some o → b ≠ hh.objs.size := fun b o e => Nat.ne_of_lt (Heap.lt_size e)
  refine ks_wpAt_execs_cons (ks_wpAt_Expr_any (ks_wpAt_MethodCall (pl := do return (← importBound (.Call (.Name "super" p0) [] [] p1) (callEnv fd hh.objs.size fI)).getD true) (ks_wpAt_super_base (ar := ar) (file := file) (tf := tf) (by rw [hkind]; exact ssu) (by rw [hkind]; exact scl) rfl (by subst efd; rfl) (hk _ _ (KX _ _ lk)) rfl (by subst efd; exact hpar) (by subst efd; exact ecd) (hk _ _ (KX _ _ lcd)) rfl hvs hfile X.top ?sup) ?tree) ?int rfl)
  case int =>
    subst efd
    simp only [interactive, callEnv, newEnv, sk]
    rfl
  case tree =>
    rw [arm_eval_Call]
    have e : ∀ ov, methodCall (.Call (.Name "super" p0) [] [] p1) "__init__" p2 p4 (callEnv fd hh.objs.size fI) ov ([Expr.Name nv2 p3].length + ([] : List Keyword).length) (backTo p4 (starEach [Expr.Name nv2 p3] (callEnv fd hh.objs.size fI))) (backToKw p4 (keywordEach [] (callEnv fd hh.objs.size fI))) = (do
        let (f, first) ← holding [ov] (getMethod ov "__init__" (do return (← importBound (.Call (.Name "super" p0) [] [] p1) (callEnv fd hh.objs.size fI)).getD true))
        callWith p4 f first (backTo p4 (starEach [Expr.Name nv2 p3] (callEnv fd hh.objs.size fI))) []) := fun ov => by
      unfold methodCall methodCallPos calleeOf
      have hform : methodCallForm ([Expr.Name nv2 p3].length + ([] : List Keyword).length) (backTo p4 (starEach [Expr.Name nv2 p3] (callEnv fd hh.objs.size fI))) (backToKw p4 (keywordEach [] (callEnv fd hh.objs.size fI))) = true := rfl
      rw [hform]
      simp only [hline, Bool.not_true, Bool.false_or, if_true, pure_bind]
      rfl
    exact bind_congr fun ov => bind_congr fun _ => e ov
  case sup =>
    have hkf : (callEnv fd hh.objs.size fI).scope.kind = .function := by subst efd; exact sk
    have hgl : (callEnv fd hh.objs.size fI).globals = mainGlobals := by subst efd; rfl
    have hbl : (callEnv fd hh.objs.size fI).builtins = builtinsNs := by subst efd; rfl
    have hlo : (callEnv fd hh.objs.size fI).locals = hh.objs.size := by subst efd; rfl
    have hce : (callEnv fd hh.objs.size fI).cells = [(("__class__" : Str), cc)] := by subst efd; rfl
    have nsK : ∀ {b : Addr} {m : Str → Option Value}, hh.Ns b m → h₁.Ns b m := fun {b m} ⟨o, es, ep, e, d, r⟩ => ⟨o, es, ep, hk _ _ e, d, r⟩
    refine PySem.W.ks_loadName_global hkf (by rw [hkind]; exact ssu) (loadGlobal_builtin (by rw [hgl]; exact nsK hg) (PySem.W.mg_none_of KX hg X.sg) (by rw [hbl]; exact nsK hb) ((hbb _ (by decide +kernel)).trans (by rfl)) ⟨rfl, ?_⟩)
    refine wpAny_loadName_free hkf (by rw [hkind]; exact scl) (c := cc) (by rw [hce]; rfl) ⟨_, K1 _ _ lcell, rfl⟩ ?_
    rw [har]
    refine wpAny_loadName_local hkf (by rw [hkind]; exact sse) (by rw [hlo]; exact hns) hv1 ?_
    obtain ⟨nmC, NC, qnC, bsC, bmC, hdctC, snC, subC, abC, colC, ddC, k0, k1, k2, k3, k5, hCo, hT⟩ := PySem.W.excInit_of K1 X.ex
    refine ks_wpAny_isType_cls hCo rfl ⟨rfl, ?_⟩
    refine ks_wpAny_call_super hCo rfl ha1 rfl (fun c e => by cases e) (PySem.W.looks_mroIn K1 X.self) (fun h2 e2 k2 => ?_)
    have K2 : K.In h2 := fun b o e => k2 b o (K1 b o e)
    have I2 : PySem.W.InstAt h2 a (xob C t0 none) C none := ⟨k2 _ _ ha1, rfl, rfl, trivial⟩
    have hsup := X.sup
    unfold ks_superIn at hsup
    rw [hcd, Option.bind_some] at hsup
    refine kxs_getMethod kxs_ValueError e2 (PySem.W.looks_opaque K2 X.st) (l₀ := cd.mro) (fun A Q E s k q => wpAny_bind ((PySem.W.looks_clsIn K2 hcd) A _ E s k (wpAny_pure q))) rfl K2 hsup (I2.type.andThen (PySem.W.looks_subIn K2 X.ve)) (PySem.W.ks_ne K2 I2 hcd) rfl ?_
    have k3 : ∀ b o, h₁.get? b = some o → (h2.push (kxs_mw "ValueError.__init__" a)).get? b = some o := fun b o e => Heap.get?_push_of_some _ (k2 b o e)
    have hns3 : (h2.push (kxs_mw "ValueError.__init__" a)).Ns hh.objs.size fun x => ([(("self" : Str), Value.ref a), (nv2, u)] : List (Str × Value)).reverse.lookup x := by
      obtain ⟨o, es, ep, e, d, r⟩ := hns
      exact ⟨o, es, ep, k3 _ _ e, d, r⟩
    have hu3 : (h2.push (kxs_mw "ValueError.__init__" a)).get? h2.objs.size = some (kxs_mw "ValueError.__init__" a) := Heap.get?_push_size _ rfl
    have hlc : ∀ {x : Str}, scope.names.lookup x = some .local → (callEnv fd hh.objs.size fI).kindOf x = some .local := fun {x} e => by rw [hkind]; exact e
    refine kxs_callWith (i := "ValueError.__init__") (x := a) rfl (evalArgs_plain ?_)
    refine Calls.spliced_cons (wpAny_Name (wpAny_loadName_local hkf (hlc sv) (by rw [hlo]; exact hns3) hv2 ?_) sdb)
    refine Calls.spliced_nil ⟨hu3, ?_⟩
    refine call_mw (k3 _ _ hCo) (k3 _ _ ha1) hu3 (by show 1 ≤ sizeLine; decide) fun h4 t1 k4 ha4 => ?_
    have k14 : ∀ b o, b ≠ a → h₁.get? b = some o → h4.get? b = some o := fun b o n e => k4 b o n (k3 b o e)
    have aK : ∀ b o, K.lookup b = some o → b ≠ a := fun b o e z => by rw [z, haK] at e; cases e
    have K4 : K.In h4 := fun b o e => k14 b o (aK b o e) (K1 b o e)
    have hns4 : h4.Ns hh.objs.size fun x => ([(("self" : Str), Value.ref a), (nv2, u)] : List (Str × Value)).reverse.lookup x := by
      obtain ⟨o, es, ep, e, d, r⟩ := hns3
      exact ⟨o, es, ep, k4 _ _ (fun z => hsz _ _ ha z.symm) e, d, r⟩
    refine ks_wpAt_execs_cons (ks_wpAt_Assign_Attr (wpAt_of_wpAny (wpAny_Name (wpAny_loadName_local hkf (hlc sv) (by rw [hlo]; exact hns4) hv2 ?_) sdb)) rfl)
    refine wpAny_Name (wpAny_loadName_local hkf (hlc sse) (by rw [hlo]; exact hns4) hv1 ?_) (by decide)
    refine PySem.W.set_plain K4 (ox := xob C t1 none) (od := none) ⟨ha4, rfl, rfl, trivial⟩ X.sa (PySem.HandSPX.exc_osa K4 ha4 hcd hmro hhd X.no fun h5 tk5 dx k5 hdx dne hx5 hn5 => ?_)
    have k05 : ∀ b o, b ≠ a → hh.get? b = some o → h5.get? b = some o := fun b o n e => k5 b o n (k14 b o n (hk b o e))
    have hdx0 : hh.get? dx = none := by
      cases e : hh.get? dx with
      | none => rfl
      | some o => exact absurd (Heap.lt_size (k14 _ _ dne (hk _ _ e))) (Nat.not_lt.mpr hdx)
    exact wpAt_of_wpAny (wpAny_execs_nil (hq h5 tk5 dx t1 k05 hdx0 dne hx5 hn5))
end
section
open L2
variable {X : Cx} {C fI cc cda : Addr} {v f qual : Str} {params : Arguments} {body : List Stmt} {scope : Scope} {cdv : Value} {fd : FuncData}
/-- X(e) -/
theorem pmk_x {nm : Str} {es : List Expr} {p pos : Pos} {t : TA} (x : ExI X.prog X.K C fI cc cda v f qual params body scope cdv fd) (iC : PySem.W.findIn X.K (.ref C) "__init__" = some (some (.ref fI))) (tI : PySem.W.typeIn X.K (.ref fI) = some (.type "function"))
    (exC : PySem.W.subIn X.K (.ref C) (.type "BaseException") = some true) (tyC : PySem.W.typeIn X.K (.ref C) = some (.type "type")) (kC : PySem.W.keepIn X.K (.ref C) = true) (hr : X.A.depth + 1 < recursionLimit) (hg : Gl X nm) (hm : X.mg nm = some (.ref C)) (hdb : (nm == ("__debug__" : Str)) = false)
    (hst : es.all noStar = true) (ha : PA X es t) (h0 : es = [] → ∀ σ H Q, t σ H Q → Q [] H) {R : List V → Hp → XK → Prop} (hR : ∀ vs H1 Q, R vs H1 Q → ∃ y, vs = [y] ∧ ∀ dx, H1 dx = none → Q (.ref C) (some dx) (upd H1 dx (.xd [(f, y)]))) :
    PMk X (.Call (.Name nm p) es [] pos) (fun σ H Q => t σ H fun vs H1 => R vs H1 Q) := by
  intro pins s σ H Q I h
  refine wpAny_Call_Name_kw (ld_glob I hg hm ?_ hdb)
  cases es with
  | nil =>
    obtain ⟨y, hy, _⟩ := hR _ _ _ (h0 rfl σ H _ h)
    cases hy
  | cons e es =>
    have hs := hst
    simp only [List.all_cons, Bool.and_eq_true] at hs
    refine PySem.W.callWith_K (h₀ := X.base) I.ok.mod.kin kC (thn (ha.run pos pins s σ H _ I h) fun us s1 ⟨vs, H1, I1, r1, q0⟩ => ⟨I1.kIn, ?_⟩) (star_of hs.1) (any_star hs.2)
    obtain ⟨y, hy, q1⟩ := hR _ _ _ q0
    subst hy
    obtain ⟨u, rfl, ru⟩ : ∃ u, us = [u] ∧ RelV y u := by
      cases r1 with
      | cons r rr =>
        cases rr
        exact ⟨_, rfl, r⟩
    obtain ⟨hp, g, dr, tk, os⟩ := s1
    obtain ⟨nmC, NC, qnC, bsC, bmC, hdctC, snC, subC, abC, colC, ddC, k0, k1, k2, k3, k5, hCo, hT⟩ := PySem.W.excInit_of I1.kIn x.ex
    have kk : ∀ b o, hp.get? b = some o → ((hp.push (PySem.W.kdv_tup [u])).push (PySem.HandSPX.excO C hp.objs.size)).get? b = some o := fun b o e => Heap.get?_push_of_some _ (Heap.get?_push_of_some _ e)
    have hget : ((hp.push (PySem.W.kdv_tup [u])).push (PySem.HandSPX.excO C hp.objs.size)).get? (hp.objs.size + 1) = some (PySem.HandSPX.excO C hp.objs.size) := by heap_get
    have fresh : ∀ {b : Addr} {o : Obj}, hp.get? b = some o → b ≠ hp.objs.size + 1 := fun {b o} e => Nat.ne_of_lt (Nat.lt_succ_of_lt (Heap.lt_size e))
    obtain ⟨mb, hb1, hb2⟩ := I1.ok.mod.blt
    show wpAny _ _ (call (.ref C) [u]) _ _ _
    refine wpAny_call (PySem.HandSPX.call_own F.excBase_ValueError hT hCo (PySem.W.looks_findIn I1.kIn iC) (fun self => PySem.W.bind_fn I1.kIn self tI) (by show 1 ≤ sizeLine; decide)
      (init_run (mg := X.mg) (mb := mb) (t0 := hp.objs.size) x (fun b o e => kk b o (I1.kIn b o e)) (by rw [make_depth]; exact hr) (I1.ok.mod.nolimit.keeps fun b o e => kk b o (I1.bk b o e)) (I1.ok.mod.glob.keeps fun b o e => kk b o (I1.bk b o e)) (hb1.keeps fun b o e => kk b o (I1.bk b o e)) hb2 hget ?_ ?_))
    · cases e : X.K.lookup (hp.objs.size + 1) with
      | none => rfl
      | some o => exact absurd rfl (fresh (I1.kIn _ _ e))
    · intro h' tk' dx t1 k hdx dne hx hns
      have hdx0 : hp.get? dx = none := by
        cases e : hp.get? dx with
        | none => rfl
        | some o => rw [kk _ _ e] at hdx; cases hdx
      have ha0 : hp.get? (hp.objs.size + 1) = none := by
        cases e : hp.get? (hp.objs.size + 1) with
        | none => rfl
        | some o => exact absurd rfl (fresh e)
      obtain ⟨G, g1, g2⟩ := restrict h' fun b => decide (b ≠ hp.objs.size + 1)
      have gk : ∀ b, b ≠ hp.objs.size + 1 → G.get? b = h'.get? b := fun b hb => g1 b (decide_eq_true hb)
      have ga : G.get? (hp.objs.size + 1) = none := g2 _ (by simp)
      have keep : ∀ b o, hp.get? b = some o → G.get? b = some o := fun b o e => by
        rw [gk b (fresh e)]
        exact k b o (fresh e) (kk b o e)
      have hH : H1 dx = none := I1.hok.gone hdx0
      have hnsG : G.Ns1 dx fun z => if z = f then some u else none := hns.at fun o e => by rw [gk _ dne]; exact e
      have J : L2.Inv X pins σ (upd H1 dx (.xd [(f, y)])) ⟨G, g, dr, tk', os⟩ := I1.laidN (t' := tk') keep hdx0 hH ⟨_, hnsG, relO_put (fs := []) ru fun _ => True.intro⟩
      refine ⟨rfl, hp.objs.size + 1, xob C t1 (some dx), _, ⟨G, g, dr, tk', os⟩, _, .ref C, some dx, rfl, J, fun b o e => ?_, ga, hx, ⟨rfl, rfl⟩, rfl, rfl, ?_, rfl, I1.bare, raises_own exC tyC, q1 dx hH⟩
      · have hb : b ≠ hp.objs.size + 1 := fun z => by
          have e : G.get? b = some o := e
          rw [z, ga] at e; cases e
        have e : G.get? b = some o := e
        rw [gk b hb] at e
        exact e
      · rw [upd_ne dne.symm]
        exact I1.hok.gone ha0
/-- no exception of another form -/
theorem pmk_no {nm : Str} {es : List Expr} {p pos : Pos} {t : TA} (kC : PySem.W.keepIn X.K (.ref C) = true) (hg : Gl X nm) (hm : X.mg nm = some (.ref C)) (hdb : (nm == ("__debug__" : Str)) = false)
    (hst : es.all noStar = true) (ha : PA X es t) (h0 : es = [] → ∀ σ H Q, t σ H Q → Q [] H) {R : List V → Hp → XK → Prop} (hR : ∀ vs H1 Q, ¬ R vs H1 Q) :
    PMk X (.Call (.Name nm p) es [] pos) (fun σ H Q => t σ H fun vs H1 => R vs H1 Q) := by
  intro pins s σ H Q I h
  cases es with
  | nil => exact (hR _ _ _ (h0 rfl σ H _ h)).elim
  | cons e es =>
    have hs := hst
    simp only [List.all_cons, Bool.and_eq_true] at hs
    refine wpAny_Call_Name_kw (ld_glob I hg hm ?_ hdb)
    exact PySem.W.callWith_K (h₀ := X.base) I.ok.mod.kin kC (thn (ha.run pos pins s σ H _ I h) fun us s1 ⟨vs, H1, I1, r1, q0⟩ => (hR _ _ _ q0).elim) (star_of hs.1) (any_star hs.2)
end
/-! #### the check -/
def fnB (P : Program) (K : PySem.W.Frag) (C : Addr) (f : Str) (fd : FuncData) : Bool :=
  decide (fd.globals = mainGlobals) && (decide (fd.builtins = builtinsNs) && (decide (fd.defaults = .none) && (PySem.W.codeIn K fd.code fd.qualname && (match fd.closure, fd.code, fd.body, fd.params.args with
    | [(z, cc)], .ref cda, .stmts body, [_, b] => decide (z = "__class__") && ((match K.lookup cc with
        | some ⟨_, _, .cell (some (.ref D)), _⟩ => decide (D = C)
        | _ => false) && ((match K.lookup cda with
        | some ⟨_, _, .fields vs, _⟩ => (match (vs[2]? : Option Value) with
          | some (.str file _) => P.main.file == file
          | _ => false)
        | _ => false) && (initP b.arg fd.params && (initB b.arg f body && initS b.arg fd.scope))))
    | _, _, _, _ => false))))
def exiB (P : Program) (K : PySem.W.Frag) (C : Addr) (f : Str) : Bool :=
  He.eqO (PySem.W.findIn K (.ref C) "__init__") (some (some (.ref (He.ma K C "__init__")))) && (decide (PySem.W.typeIn K (.ref (He.ma K C "__init__")) = some (.type "function")) && (decide (PySem.W.subIn K (.ref C) (.type "BaseException") = some true) && (decide (PySem.W.typeIn K (.ref C) = some (.type "type")) &&
    (excInitIn K C He.veBase "ValueError.__new__" && ((match PySem.W.clsIn K C with
      | some cd => PySem.HandSPX.refsVE cd.mro && cd.hasDict
      | none => false) && (decide (PySem.W.mroIn K C (.ref C) = some true) && (He.eqO (ks_superIn K C C "__init__") (some (some (.builtin "ValueError.__init__"))) && (decide (PySem.W.subIn K (.ref C) (.type "ValueError") = some true) &&
    (He.eqO (PySem.W.nsIn K mainGlobals "super") (some none) && (He.eqO (PySem.W.nsIn K cStatics "thirdparty.any") (some none) && (He.eqO (PySem.W.findIn K (.ref C) "__setattr__") (some (some (.builtin "object.__setattr__"))) && (He.eqO (PySem.W.findIn K (.ref C) f) (some none) &&
    (!(P.main.scope.names.lookup ("super" : Str)).isSome && (match K.lookup (He.ma K C "__init__") with
      | some ⟨_, _, .func fd, _⟩ => fnB P K C f fd
      | _ => false))))))))))))))
def xB (P : Program) (M : Nm) (T : Tb) (K : PySem.W.Frag) (c : Nat) : Bool := PySem.W.keepIn K (.ref (He.ga K (M.exc.getD c ""))) && (match T.exc.getD c [] with
  | [i] => decide (i < M.atts.length) && exiB P K (He.ga K (M.exc.getD c "")) (M.atts.getD i "")
  | _ => true)
theorem exi_of {P : Program} {K : PySem.W.Frag} {C : Addr} {f : Str} (h : exiB P K C f = true) : ∃ cc cda v qual params body scope cdv fd, ExI P K C (He.ma K C "__init__") cc cda v f qual params body scope cdv fd := by
  unfold exiB at h
  obtain ⟨h1, h⟩ := ban h
  obtain ⟨h2, h⟩ := ban h
  obtain ⟨h3, h⟩ := ban h
  obtain ⟨h4, h⟩ := ban h
  obtain ⟨h5, h⟩ := ban h
  obtain ⟨h6, h⟩ := ban h
  obtain ⟨h7, h⟩ := ban h
  obtain ⟨h8, h⟩ := ban h
  obtain ⟨h9, h⟩ := ban h
  obtain ⟨h10, h⟩ := ban h
  obtain ⟨h11, h⟩ := ban h
  obtain ⟨h12, h⟩ := ban h
  obtain ⟨h13, h⟩ := ban h
  obtain ⟨h14, h⟩ := ban h
  split at h
  · rename_i oc od fd osl lk
    obtain ⟨name, qual, params, fbody, scope, globals, closure, defaults, kV, doc, pm, an, cdv, ct, blt⟩ := fd
    unfold fnB at h
    obtain ⟨g1, h⟩ := ban h
    obtain ⟨g2, h⟩ := ban h
    obtain ⟨g3, h⟩ := ban h
    obtain ⟨g4, h⟩ := ban h
    have z1 : globals = mainGlobals := of_decide_eq_true g1
    have z2 : blt = builtinsNs := of_decide_eq_true g2
    have z3 : defaults = .none := of_decide_eq_true g3
    clear g1 g2 g3
    subst z1 z2 z3
    dsimp only at g4 h
    split at h
    · rename_i z cc cda body x b e4
      obtain ⟨j1, h⟩ := ban h
      obtain ⟨j2, h⟩ := ban h
      obtain ⟨j3, h⟩ := ban h
      obtain ⟨j4, h⟩ := ban h
      obtain ⟨j5, j6⟩ := ban h
      have y1 := of_decide_eq_true j1
      clear j1
      subst y1
      split at j2
      · rename_i cl cld D csl lcell
        have y2 := of_decide_eq_true j2
        clear j2
        subst y2
        split at j3
        · rename_i ccl cdd vs ccs lcd
          split at j3
          · rename_i file tf hvs
            refine ⟨_, _, _, qual, params, _, scope, _, _, { fnK := ⟨oc, od, osl, name, kV, doc, pm, an, ct, rfl, lk⟩, code := g4, cda := ⟨rfl, ccl, cdd, vs, ccs, file, tf, lcd, hvs, j3⟩, cell := ⟨cl, cld, csl, lcell⟩, ex := h5, mro := ?_, self := of_decide_eq_true h7, sup := He.eqO_ok h8, ve := of_decide_eq_true h9, sg := He.eqO_ok h10, st := He.eqO_ok h11, sa := He.eqO_ok h12, no := He.eqO_ok h13, pr := j4, bd := j5, sc := j6, top := ?_ }⟩
            · split at h6
              · rename_i cd ecd
                obtain ⟨k1, k2⟩ := ban h6
                exact ⟨cd, ecd, k1, k2⟩
              · cases h6
            · simpa using h14
          · cases j3
        · cases j3
      · cases j2
    · cases h
  · cases h
open He in
theorem xmk {P : Program} {w : World} {K : PySem.W.Frag} {mg : Str → Option Value} {base h : Heap} {M : Nm} {T : Tb} {es : List Ent} (a : AllK P w K mg base h M T es (xB P M T)) : XMk (mkG P w K mg base M T es) := by
  intro n X s W c nm ex p pos t ctx hn hg hst ha h0
  obtain ⟨g1, g2, g3, g4, g5⟩ := ctx.glo hg
  obtain ⟨m1, hc⟩ := a.xd.mg c nm hn
  have q := a.xbs c hc
  unfold xB at q
  obtain ⟨kC, q⟩ := ban q
  have hm : X.mg nm = some (.ref ((mkG P w K mg base M T es).xa c)) := by rw [ctx.mg]; exact m1
  have eK : X.K = K := ctx.K
  have eP : X.prog = P := ctx.prog
  have hexc : excF T c = T.exc.getD c [] := rfl
  split at q
  · rename_i i ei
    obtain ⟨hi, q⟩ := ban q
    obtain ⟨cc, cda, v, qual, params, body, scope, cdv, fd, xx⟩ := exi_of q
    have q' := q
    unfold exiB at q'
    obtain ⟨h1, q'⟩ := ban q'
    obtain ⟨h2, q'⟩ := ban q'
    obtain ⟨h3, q'⟩ := ban q'
    obtain ⟨h4, q'⟩ := ban q'
    have hroom : X.A.depth + 1 < recursionLimit := by have := ctx.room.dp; omega
    refine pmk_x (C := ga K (M.exc.getD c "")) (by rw [eP, eK]; exact xx) (by rw [eK]; exact eqO_ok h1) (by rw [eK]; exact of_decide_eq_true h2) (by rw [eK]; exact of_decide_eq_true h3) (by rw [eK]; exact of_decide_eq_true h4) (by rw [eK]; exact kC) hroom g1 hm g2 hst ha h0 ?_
    rintro vs H1 Q ⟨j, y, ej, hv, hQ⟩
    have ej2 : T.exc.getD c [] = [j] := ej
    rw [ei] at ej2
    cases ej2
    refine ⟨y, hv, fun dx hdx => ?_⟩
    have := hQ dx hdx
    rw [att_at (of_decide_eq_true hi)] at this
    exact this
  · rename_i hne
    refine pmk_no (C := ga K (M.exc.getD c "")) (by rw [eK]; exact kC) g1 hm g2 hst ha h0 ?_
    rintro vs H1 Q ⟨j, y, ej, _, _⟩
    exact hne j ej
end Ev
end
section
set_option maxRecDepth 100000
set_option maxHeartbeats 8000000
/-! Ev, part 23: the law's end. -/
namespace Ev
open PySem PySem.Spec PyProof.Rows L2 He
def spL (K : PySem.W.Frag) : Sp := fun vs H Q _ => ∃ (a : Addr) (ns : List Int), vs = [.ref a] ∧ ns.length ≤ 63 ∧ SqL K H a (ns.map V.int) ∧ ∀ H', Q (.bl true) H'
theorem law_sp2 {G : Pg} {n f : Nat} (hps : (G.ps f).length = 1) (no : ∀ a o, G.K.lookup a = some o → o.cls ≠ .type "list") (hA : Asked G.T n f) {vs : List V} {H : Hp} {Q : VK} {E : XK} (h : spL G.K vs H Q E) : spF G n f vs H Q E := by
  obtain ⟨a, ns, rfl, hl, hS, hQ⟩ := h
  refine ⟨hps.symm, [], [], [.lst (ns.map .int)], rs_nil, RepL.cons (rep_script hS no) RepL.nil, ?_⟩
  obtain ⟨S, e⟩ := hA ns hl
  rw [e]
  intro m' H' v _ _ r
  rw [r.bl_inv]
  exact hQ H'
/-- an exception of any world -/
def CXw (P : Program) : CXT := fun o H s E e s' => ∃ w, L2.CX P w o H s E e s'
theorem cx_any {P : Program} {w : World} {K : PySem.W.Frag} {mg : Str → Option Value} {base : Heap} {k : Nat} {f : Addr} {fd : FuncData} {ps : List Str} {sp : Sp} (F : FnOk P w K mg base (L2.CX P w) k f fd ps sp) : FnOk P w K mg base (CXw P) k f fd ps sp :=
  ⟨F.len, fun A outer s H args us vs Q E hr e0 hb r hs => codeAny_mono (F.run A outer s H args us vs Q E hr e0 hb r hs) fun r s' h => by
    cases r with
    | error e => exact ⟨w, h⟩
    | ok fl => cases fl <;> exact h⟩
theorem cxw_no {P : Program} {H : Hp} {s : Shared} {e : Value} {s' : Shared} (h : CXw P [] H s (fun _ _ _ => False) e s') : False := by
  obtain ⟨w, a, B, H', cls, d, _, _, _, _, _, _, _, z⟩ := h
  exact z
theorem law_F {P : Program} {w : World} {K : PySem.W.Frag} {mg : Str → Option Value} {h : Heap} {M : Nm} {T : Tb} {es : List Ent} {xB : PySem.W.Frag → Nat → Bool} {f k : Nat} {fa : Addr} {e : Ent} (X : K.In h) (N : h.Ns mainGlobals mg) (t : textB M T es = true) (q : obsX (headB M T es xB) (es.map (·.d)) K = valD (es.map (·.d)))
    (bp : ∀ e ∈ es, BnP e) (bk : ∀ f n ks pm, (f, n, ks, pm) ∈ M.kws → ∀ e, es[f]? = some e → BnK e n ks pm) (bc : ∀ k n ks pm C f, (k, n, ks, pm) ∈ M.ckw → T.cls[k]? = some C → C.init = some f → ∀ e, es[f]? = some e → BnC e n ks pm)
    (xm : ∀ base, K.In base → AllK P w K mg base h M T es xB → XMk (mkG P w K mg base M T es)) (he : es[f]? = some e) (hmf : M.fns[f]? = some ("law" : Str)) (hps : e.ps = [("script" : Str)]) (hd0 : e.d.dfl = []) (hfa : mg ("law" : Str) = some (.ref fa)) (hA : Asked T k f) :
    ∃ (K : PySem.W.Frag) (fd : FuncData) (sp : Sp), K.In h ∧ (∀ (s : Shared) (u : Value), BindsTo s fd ⟨[u], []⟩ [(("script" : Str), u)]) ∧
      (∀ (H : Hp) (a : Addr) (ns : List Int), ns.length ≤ 63 → Only H → SqL K H a (ns.map V.int) → sp [.ref a] H (fun v _ => v = .bl true) fun _ _ _ => False) ∧
      ∀ base : Heap, K.In base → base.Ns mainGlobals mg → FnOk P w K mg base (CXw P) k fa fd [("script" : Str)] sp := by
  have q1 : headB M T es xB K = true := congrArg (fun z : AlD => z.1) q
  have q2 : es.map (fun e => fnW K e.d.at_) = es.map fun e => e.d.val := by
    have := congrArg (fun z : AlD => z.2) q
    simp only [obsX, valD, List.map_map] at this
    exact this
  have c : ∀ base, AllK P w K mg base h M T es xB := fun base => ⟨X, N, t, q1, q2⟩
  have h0 := (c h).hd bp bk bc
  obtain ⟨g1, _⟩ := h0.fn f "law" hmf (by decide)
  have g1 : mg ("law" : Str) = some (.ref (fAd K (es.getD f entD).d.at_)) := g1
  rw [hfa] at g1
  have g1 : fa = fAd K (es.getD f entD).d.at_ := by
    have := Option.some.inj g1
    cases this
    rfl
  have hf : f < T.fns.length := h0.fnl f (List.getElem?_eq_some_iff.mp hmf).1
  refine ⟨K, (mkG P w K mg h M T es).fd f, spL K, X, fun s u => ?_, fun H a ns hl _ hS => ⟨a, ns, rfl, hl, hS, fun _ => rfl⟩, fun base hK _ => ?_⟩
  · have FD := (c h).funD he
    have e0 : e.d.dvs K = [] := by
      show e.d.dfl.map _ = []
      rw [hd0]; rfl
    rw [e0] at FD
    have := FunD.bindsA (ps := e.ps) FD (bp e (List.mem_of_getElem? he)) s [u] (by rw [hps]; rfl)
    rw [hps] at this
    exact this
  · have cb := c base
    have lv := (lv_all (cb.hd bp bk bc) cb.np cb.xd (xm base hK cb) cb.ff k).1 f hf
    have eps : (mkG P w K mg base M T es).ps f = [("script" : Str)] := by
      show (es.getD f entD).ps = _
      rw [getD_of he, hps]
    rw [eps] at lv
    rw [g1]
    exact cx_any <| lv.imp fun vs H Q E hsp => law_sp2 (by rw [eps]; rfl) cb.noL hA hsp
end Ev
end
section
set_option maxRecDepth 100000
set_option maxHeartbeats 8000000
/-! Ev, part 24: reckoning with the evaluator. -/
namespace Ev
open PySem
/-! #### steps -/
@[simp] theorem os_ok {α : Type} (a : α) (S : Store) (ρ : Fr) (k : α → Store → Os) (t : Tag k) : (Rs.ok a S).os ρ k t = k a S := rfl
@[simp] theorem os_ex {α : Type} (c : Nat) (l : List D) (S : Store) (ρ : Fr) (k : α → Store → Os) (t : Tag k) : (Rs.ex c l S : Rs α).os ρ k t = .ex c l ρ S := rfl
@[simp] theorem sq_nx (ρ : Fr) (S : Store) (k : Fr → Store → Os) (t : Tag k) : (Os.nx ρ S).sq k t = k ρ S := rfl
@[simp] theorem sq_rt (d : D) (S : Store) (k : Fr → Store → Os) (t : Tag k) : (Os.rt d S).sq k t = .rt d S := rfl
@[simp] theorem sq_bk (ρ : Fr) (S : Store) (k : Fr → Store → Os) (t : Tag k) : (Os.bk ρ S).sq k t = .bk ρ S := rfl
@[simp] theorem sq_ct (ρ : Fr) (S : Store) (k : Fr → Store → Os) (t : Tag k) : (Os.ct ρ S).sq k t = .ct ρ S := rfl
@[simp] theorem sq_ex (c : Nat) (l : List D) (ρ : Fr) (S : Store) (k : Fr → Store → Os) (t : Tag k) : (Os.ex c l ρ S).sq k t = .ex c l ρ S := rfl
@[simp] theorem nox_ok {α : Type} (a : α) (S : Store) : (Rs.ok a S).nox = .ok a S := rfl
@[simp] theorem ofO_some {α : Type} (a : α) (S : Store) : ofO (some a) S = .ok a S := rfl
@[simp] theorem toR_rt (d : D) (S : Store) : toR (.rt d S) = .ok d S := rfl
@[simp] theorem toR_nx (ρ : Fr) (S : Store) : toR (.nx ρ S) = .ok .non S := rfl
@[simp] theorem toR_ex (c : Nat) (l : List D) (ρ : Fr) (S : Store) : toR (.ex c l ρ S) = .ex c l S := rfl
@[simp] theorem th_ok2 {α β : Type} (a : α) (S : Store) (k : α → Store → Rs β) (t : Tag k) : (Rs.ok a S).th k t = k a S := th_ok a S k t
@[simp] theorem th_ex2 {α β : Type} (c : Nat) (l : List D) (S : Store) (k : α → Store → Rs β) (t : Tag k) : (Rs.ex c l S : Rs α).th k t = .ex c l S := th_ex c l S k t
theorem sq_ite {c : Prop} [Decidable c] (a b : Os) (k : Fr → Store → Os) (t : Tag k) : (if c then a else b).sq k t = if c then a.sq k t else b.sq k t := by split <;> rfl
theorem toR_ite {c : Prop} [Decidable c] (a b : Os) : toR (if c then a else b) = if c then toR a else toR b := by split <;> rfl
/-! #### a call's end -/
theorem tidy_len {fz : Bool} {S S' : Store} {d : D} (h : S'.length = S.length) : tidy fz S (.ok d S') = .ok d S' := by
  have e : S'.take S.length = S' := by rw [← h]; exact List.take_length
  unfold tidy
  simp only [e]
  split
  · split
    · rfl
    · rename_i hb
      split
      · split
        · rename_i n
          split
          · rename_i l el
            have := (List.getElem?_eq_some_iff.mp el).1
            simp only [below, decide_eq_true_eq] at hb
            omega
          · rfl
        · rfl
      · rfl
  · rfl
theorem tidy_same (fz : Bool) (S : Store) (d : D) : tidy fz S (.ok d S) = .ok d S := tidy_len rfl
theorem tidy_ex {fz : Bool} {S S' : Store} {c : Nat} {l : List D} (h : S'.length = S.length) : tidy fz S (.ex c l S') = .ex c l S' := by
  have e : S'.take S.length = S' := by rw [← h]; exact List.take_length
  unfold tidy
  simp only [e]
  split <;> rfl
theorem tidy_exS (fz : Bool) (S : Store) (c : Nat) (l : List D) : tidy fz S (.ex c l S) = .ex c l S := tidy_ex rfl
theorem run_def {T : Tb} {n f : Nat} {ds : List D} {S : Store} {F : Fn} (h : T.fns[f]? = some F) (hl : ds.length = F.np) : run T (n + 1) f ds S = tidy F.fz S (toR (exSs (csOf T n) F.body (startF F.nv ds) S)) := by
  rw [run_succ]
  unfold runB
  rw [csOf_T, h]
  simp only [hl, if_true]
/-! #### loops -/
section
variable {c : Fr → Store → Rs Bool} {f : Fr → Store → Os}
theorem whlN_mono : ∀ {n m : Nat} {ρ : Fr} {S : Store} {r : Os}, n ≤ m → whlN c f n ρ S = some r → whlN c f m ρ S = some r
  | 0, _, _, _, _, _, h => by cases h
  | n + 1, 0, _, _, _, hm, _ => absurd hm (Nat.not_succ_le_zero n)
  | n + 1, m + 1, ρ, S, r, hm, h => by
    have hm' : n ≤ m := Nat.le_of_succ_le_succ hm
    simp only [whlN] at h ⊢
    cases hc : c ρ S with
    | ok b S1 =>
      rw [hc] at h
      cases b with
      | false => exact h
      | true =>
        simp only at h ⊢
        cases hf : f ρ S1 with
        | nx ρ2 S2 => rw [hf] at h; exact whlN_mono hm' h
        | ct ρ2 S2 => rw [hf] at h; exact whlN_mono hm' h
        | bk ρ2 S2 => rw [hf] at h; exact h
        | rt d S2 => rw [hf] at h; exact h
        | ex a b c d => rw [hf] at h; exact h
        | bad => rw [hf] at h; exact h
    | ex x l S1 => rw [hc] at h; exact h
    | bad => rw [hc] at h; exact h
theorem whl_of {n : Nat} {ρ : Fr} {S : Store} {r : Os} (h : whlN c f n ρ S = some r) : whl c f ρ S = r := by
  have hx : ∃ n r, whlN c f n ρ S = some r := ⟨n, r, h⟩
  unfold whl
  rw [dif_pos hx]
  have h2 := hx.choose_spec.choose_spec
  generalize hx.choose_spec.choose = r2 at h2 ⊢
  generalize hx.choose = k at h2
  have a1 := whlN_mono (Nat.le_max_left n k) h
  have a2 := whlN_mono (Nat.le_max_right n k) h2
  rw [a1] at a2
  exact (Option.some.inj a2).symm
/-- a turn -/
theorem whlN_turn {n : Nat} {ρ ρ2 : Fr} {S S1 S2 : Store} (hc : c ρ S = .ok true S1) (hf : f ρ S1 = .nx ρ2 S2) : whlN c f (n + 1) ρ S = whlN c f n ρ2 S2 := by
  simp only [whlN, hc, hf]
theorem whlN_end {n : Nat} {ρ : Fr} {S S1 : Store} (hc : c ρ S = .ok false S1) : whlN c f (n + 1) ρ S = some (.nx ρ S1) := by
  simp only [whlN, hc]
end
theorem gOk_nil (S : Store) : gOk [] S = true := by unfold gOk; simp
@[simp] theorem csOf_T' (T : Tb) (n : Nat) : (csOf T n).T = T := csOf_T T n
@[simp] theorem csOf_fn' (T : Tb) (n : Nat) : (csOf T n).fn = run T n := rfl
theorem wd_small {i : Int} (h : i.natAbs < 2 ^ 3999) : i.natAbs < Wd := Nat.lt_trans h (by unfold Wd; exact Nat.pow_lt_pow_right (by decide) (by decide))
end Ev
end
section
set_option maxRecDepth 100000
set_option maxHeartbeats 8000000
/-! what the laws' own helpers compute, once for all tables -/
namespace Lg
open Ev
def bPickL : Sts := (.cons (.ife (.or (.cmp .gt (.idx (.var 0) (.int 2)) (.int 0)) (.cmp .ge (.idx (.var 0) (.int 1)) (.bi .len false (.cons (.var 2) .nil))))
    (.cons .brk
    .nil)
    .nil)
    (.cons (.ife (.cmp .ge (.bi .abs false (.cons (.idx (.var 2) (.idx (.var 0) (.int 1))) .nil)) (.bin .pow false (.int 10) (.int 15)))
    (.cons (.asgI (.var 0) (.int 2) (.bi .abs false (.cons (.idx (.var 2) (.idx (.var 0) (.int 1))) .nil)))
    .nil)
    .nil)
    (.cons (.asgI (.var 0) (.int 1) (.bin .add false (.idx (.var 0) (.int 1)) (.int 1)))
    .nil)))
def bPick2 : Sts :=     (.cons (.asg 5 (.bin .mod false (.bi .int false (.cons (.bin .add false (.bin .add false (.bin .mul false (.var 4) (.int 69069)) (.bin .mul false (.idx (.var 0) (.int 3)) (.int 40503))) (.int 271)) .nil)) (.int 4294967291)))
    (.cons (.asg 5 (.bin .mod false (.bi .int false (.cons (.bin .add false (.bin .add false (.bin .mul false (.var 5) (.var 5)) (.bin .mul false (.idx (.var 0) (.int 3)) (.int 26539))) (.int 97)) .nil)) (.int 4294967279)))
    (.cons (.asg 5 (.bin .mod false (.bi .int false (.cons (.bin .add false (.bin .add false (.bin .mul false (.var 5) (.int 31821)) (.bin .div false (.var 4) (.int 9))) (.int 11)) .nil)) (.int 2147483629)))
    (.cons (.ret (.bin .mod false (.bi .int false (.cons (.bin .div false (.var 5) (.int 6)) .nil)) (.var 1)))
    .nil))))
def bPick : Sts := (.cons (.asg 2 (.idx (.var 0) (.int 0)))
    (.cons (.asgI (.var 0) (.int 3) (.bin .add false (.idx (.var 0) (.int 3)) (.int 1)))
    (.cons (.forr (.nm 3) (.rng (.cons (.bi .len false (.cons (.var 2) .nil)) .nil))
    bPickL)
    (.cons (.ife (.cmp .gt (.idx (.var 0) (.int 2)) (.int 0))
    (.cons (.asg 6 (.bin .mod false (.bi .int false (.cons (.idx (.var 0) (.int 2)) .nil)) (.var 1)))
    (.cons (.asgI (.var 0) (.int 2) (.bin .div false (.idx (.var 0) (.int 2)) (.var 1)))
    (.cons (.ret (.var 6))
    .nil)))
    .nil)
    (.cons (.asg 4 (.int 0))
    (.cons (.ife (.cmp .gt (.bi .len false (.cons (.var 2) .nil)) (.int 0))
    (.cons (.asg 4 (.bin .mod false (.bi .int false (.cons (.bi .abs false (.cons (.idx (.var 2) (.bin .mod false (.bi .int false (.cons (.idx (.var 0) (.int 3)) .nil)) (.bi .len false (.cons (.var 2) .nil)))) .nil)) .nil)) (.int 1000000007)))
    .nil)
    .nil)
    bPick2))))))
def bGcdL : Sts := (.cons (.ife (.cmp .eq (.var 1) (.int 0))
    (.cons .brk
    .nil)
    .nil)
    (.cons (.asg 3 (.bin .mod false (.bi .int false (.cons (.var 0) .nil)) (.var 1)))
    (.cons (.asg 0 (.var 1))
    (.cons (.asg 1 (.var 3))
    .nil))))
def bGcd : Sts := (.cons (.asg 0 (.bi .abs false (.cons (.var 0) .nil)))
    (.cons (.asg 1 (.bi .abs false (.cons (.var 1) .nil)))
    (.cons (.forr (.nm 2) (.rng (.cons (.bin .add false (.bin .mul false (.int 2) (.bi .max false (.cons (.bm .bitLength (.var 0) .nil) (.cons (.bm .bitLength (.var 1) .nil) .nil)))) (.int 2)) .nil))
    bGcdL)
    (.cons (.ret (.var 0))
    .nil))))
def bStart : Sts := (.cons (.ret (.lst true (.cons (.lc false [1] (.nm 1) (.seq (.var 0)) .no (.bi .int false (.cons (.var 1) .nil))) (.cons (.int 0) (.cons (.int 0) (.cons (.int 0) .nil))))))
    .nil)
def stc (ns : List Int) (a b c : Int) : Cell := .lst [.lst (ns.map .int), .int a, .int b, .int c]
/-- items that change nothing -/
theorem lcL_map {ι : Type} {tg : Tg} {fc : Fr → Store → Rs Bool} {fe : Fr → Store → Rs D} {ρ : Fr} {g : Gd} {X : Store} (j : ι → D) (v : ι → D)
    (h : ∀ (i : ι) (acc : List D), gOk g (X ++ [.lst acc]) = true ∧ ∃ ρ1, setT tg (j i) ρ (X ++ [.lst acc]) = some ρ1 ∧ fc ρ1 (X ++ [.lst acc]) = .ok true (X ++ [.lst acc]) ∧ fe ρ1 (X ++ [.lst acc]) = .ok (v i) (X ++ [.lst acc])) :
    ∀ (l : List ι) (acc : List D), acc.length + l.length ≤ LIM → lcL tg fc fe ρ g X.length (l.map j) (X ++ [.lst acc]) = if gOk g (X ++ [.lst (acc ++ l.map v)]) then .ok () (X ++ [.lst (acc ++ l.map v)]) else .bad
  | [], acc, _ => by simp [lcL]
  | i :: l, acc, hl => by
    obtain ⟨hg, ρ1, h1, h2, h3⟩ := h i acc
    simp only [List.length_cons] at hl
    have := lcL_map j v h l (acc ++ [v i]) (by simp; omega)
    simp only [List.map_cons, lcL, hg, if_true, h1, h2, h3, th_ok]
    simp only [List.getElem?_append_right (Nat.le_refl _), Nat.sub_self, List.getElem?_cons_zero]
    rw [if_pos (by omega)]
    simp only [List.append_assoc, List.singleton_append] at this
    rw [show (X ++ [Cell.lst acc]).set X.length (.lst (acc ++ [v i])) = X ++ [Cell.lst (acc ++ [v i])] by simp, this]
theorem start_of {T : Tb} {f : Nat} (h : T.fns[f]? = some ⟨1, 2, bStart, false⟩) {ns : List Int} (hn : ns.length ≤ 63) (n : Nat) : run T (n + 1) f [.lst (ns.map .int)] [] = .ok (.ref 0) [stc ns 0 0 0] := by
  rw [run_def h rfl]
  have := lcL_map (tg := .nm 1) (fc := fun ρ S => evC (csOf T n) .no ρ S) (fe := fun ρ S => evE (csOf T n) (.bi .int false (.cons (.var 1) .nil)) ρ S) (ρ := wipe [some (D.lst (List.map D.int ns)), none] [1]) (g := []) (X := []) D.int D.int (fun i acc => ⟨gOk_nil _, _, rfl, by simp [exSs, exS, evE, evT, evL, evI, evC, evW, startF, toR_nx], by simp [setS, wipe, biD, exSs, exS, evE, evT, evL, evI, evC, evW, startF, toR_nx]⟩) ns [] (by simp [LIM]; omega)
  simp only [List.length_nil, List.nil_append, gOk_nil, if_true] at this
  have hb : belowL 0 (ns.map .int) = true := by
    clear this hn
    induction ns with
    | nil => rfl
    | cons i l ih => simp [belowL, below, ih]
  simp [exSs, exS, evE, evT, evL, evI, evC, evW, startF, toR_nx] at this
  simp [exSs, exS, evE, evT, evL, evI, evC, evW, startF, toR_nx, bStart, seqIt, seqOf, Ev.guard, this, lcE, cutOk, hb, mkL, tidy, below, stc]
theorem ixN_of {n : Nat} {i : Int} (h0 : 0 ≤ i) (h1 : i < n) : ixN n i = some i.toNat := by unfold ixN; rw [if_pos h0, if_pos h1]
theorem abs_of (i : Int) : (if i < 0 then -i else i) = (i.natAbs : Int) := by split <;> omega
section
variable {tg : Tg} {f : Fr → Store → Os} {d : D} {ds : List D} {ρ ρ1 ρ2 : Fr} {S S2 : Store} {g : Gd}
theorem forL_nil : forL tg f [] [] ρ S = .nx ρ S := by simp [forL, gOk_nil]
theorem forL_nx (h1 : setT tg d ρ S = some ρ1) (h2 : f ρ1 S = .nx ρ2 S2) : forL tg f [] (d :: ds) ρ S = forL tg f [] ds ρ2 S2 := by simp only [forL, gOk_nil, if_true, h1, h2]
theorem forL_ct (h1 : setT tg d ρ S = some ρ1) (h2 : f ρ1 S = .ct ρ2 S2) : forL tg f [] (d :: ds) ρ S = forL tg f [] ds ρ2 S2 := by simp only [forL, gOk_nil, if_true, h1, h2]
theorem forL_bk (h1 : setT tg d ρ S = some ρ1) (h2 : f ρ1 S = .bk ρ2 S2) : forL tg f [] (d :: ds) ρ S = .nx ρ2 S2 := by simp only [forL, gOk_nil, if_true, h1, h2]
theorem forL_rt {e : D} (h1 : setT tg d ρ S = some ρ1) (h2 : f ρ1 S = .rt e S2) : forL tg f [] (d :: ds) ρ S = .rt e S2 := by simp only [forL, gOk_nil, if_true, h1, h2]
end
theorem pick_loop (C : Cs) (ns : List Int) (m c : Int) (X : Store) : ∀ (L : List D) (x : Option D) (a b : Int), 0 ≤ a → 0 ≤ b → ∃ x' a' b', forL (.nm 3) (fun ρ S => exSs C bPickL ρ S) [] L [some (.ref 0), some (.int m), some (.lst (ns.map .int)), x, none, none, none] (stc ns a b c :: X) = .nx [some (.ref 0), some (.int m), some (.lst (ns.map .int)), x', none, none, none] (stc ns a' b' c :: X) ∧ 0 ≤ a' ∧ 0 ≤ b'
  | [], x, a, b, ha, hb => ⟨x, a, b, by simp [forL, gOk_nil], ha, hb⟩
  | d :: L, x, a, b, ha, hb => by
    by_cases h1 : 0 < b
    · exact ⟨some d, a, b, forL_bk rfl (by simp (dsimp := false) (implicitDefEqProofs := false) [setS, bPickL, stc, idxD, seqOf, ixN, cmpD, intCmp, cmpI, h1, exSs, exS, evE, evT, evL, evI, evC, evW, startF, toR_nx]), ha, hb⟩
    by_cases h2 : (ns.length : Int) ≤ a
    · exact ⟨some d, a, b, forL_bk rfl (by simp (dsimp := false) (implicitDefEqProofs := false) [setS, bPickL, stc, idxD, seqOf, ixN, cmpD, intCmp, cmpI, h1, h2, biD, exSs, exS, evE, evT, evL, evI, evC, evW, startF, toR_nx]), ha, hb⟩
    have h3 : a.toNat < ns.length := by omega
    have h4 : a < ns.length := by omega
    by_cases h5 : (1000000000000000 : Int) ≤ (ns[a.toNat]).natAbs
    · obtain ⟨x', a', b', e, h⟩ := pick_loop C ns m c X L (some d) (a + 1) (ns[a.toNat]).natAbs (by omega) (by omega)
      refine ⟨x', a', b', ?_, h⟩
      rw [← e]
      exact forL_nx rfl (by simp (dsimp := false) (implicitDefEqProofs := false) [setS, bPickL, stc, idxD, seqOf, ixN, cmpD, intCmp, cmpI, h1, h2, biD, ha, h3, h4, abs_of, binD, arI, setI, h5, exSs, exS, evE, evT, evL, evI, evC, evW, startF, toR_nx])
    · obtain ⟨x', a', b', e, h⟩ := pick_loop C ns m c X L (some d) (a + 1) b (by omega) (by omega)
      refine ⟨x', a', b', ?_, h⟩
      rw [← e]
      exact forL_nx rfl (by simp (dsimp := false) (implicitDefEqProofs := false) [setS, bPickL, stc, idxD, seqOf, ixN, cmpD, intCmp, cmpI, h1, h2, biD, ha, h3, h4, abs_of, binD, arI, setI, h5, exSs, exS, evE, evT, evL, evI, evC, evW, startF, toR_nx])
theorem lim_le {n : Nat} (h : n ≤ 1000) : n ≤ LIM := by unfold LIM; omega
theorem wd_n {n : Nat} (h : n < 2 ^ 200) : n < Wd := Nat.lt_trans h (by unfold Wd; exact Nat.pow_lt_pow_right (by decide) (by decide))
theorem wd_lt2 {i : Int} (h0 : 0 ≤ i) (h : i < 2 ^ 200) : i.natAbs < Wd := wd_n (by omega)
/-- the mixing at the end -/
theorem pick_of {T : Tb} {f : Nat} (h : T.fns[f]? = some ⟨2, 7, bPick, true⟩) {ns : List Int} (hn : ns.length ≤ 63) {a b c m : Int} (ha : 0 ≤ a) (hb : 0 ≤ b) (hc : 0 ≤ c) (hcw : c < 2 ^ 100) (hm : 0 < m) (hmw : m < 2 ^ 100) (n : Nat) (X : Store) :
    ∃ r a' b', run T (n + 1) f [.ref 0, .int m] (stc ns a b c :: X) = .ok (.int r) (stc ns a' b' (c + 1) :: X) ∧ 0 ≤ r ∧ r < m ∧ 0 ≤ a' ∧ 0 ≤ b' := by
  obtain ⟨x', a', b', e, ha', hb'⟩ := pick_loop (csOf T n) ns m (c + 1) X (upTo 0 ns.length) none a b ha hb
  have hl := lim_le (n := ns.length) (by omega)
  have hw : m.natAbs < Wd := wd_lt2 (by omega) (by omega)
  have cw : (c + 1).natAbs < Wd := wd_lt2 (by omega) (by omega)
  simp only [stc] at e
  by_cases h1 : 0 < b'
  · refine ⟨b' % m, a', b' / m, ?_, Int.emod_nonneg _ (by omega), Int.emod_lt_of_pos _ hm, ha', Int.ediv_nonneg hb' (by omega)⟩
    rw [run_def h rfl]
    simp (dsimp := false) (implicitDefEqProofs := false) [bPick, stc, idxD, seqOf, ixN, binD, arI, setI, setS, biD, rngIt, hl, e, cmpD, intCmp, cmpI, h1, hm, hw, exSs, exS, evE, evT, evL, evI, evC, evW, startF, toR_nx]
    exact tidy_len rfl
  · have fin : ∀ s : Int, 0 ≤ s → s < 1000000007 → ∃ r, 0 ≤ r ∧ r < m ∧ exSs (csOf T n) bPick2 [some (.ref 0), some (.int m), some (.lst (ns.map .int)), x', some (.int s), none, none] (stc ns a' b' (c + 1) :: X) = .rt (.int r) (stc ns a' b' (c + 1) :: X) := by
      intro s h0 h2
      have k1 : s.natAbs < Wd := wd_lt2 (by omega) (by omega)
      have g1 : ∀ i j : Int, 0 < j → j < 2 ^ 100 → (i % j).natAbs < Wd := fun i j x y => by
        have := Int.emod_nonneg i (show j ≠ 0 by omega)
        have := Int.emod_lt_of_pos i x
        exact wd_lt2 (by omega) (by omega)
      have g2 : ∀ i : Nat, i < 2 ^ 100 → i < Wd := fun i x => by
        have := wd_lt2 (i := (i : Int)) (by omega) (by omega)
        omega
      refine ⟨_, ?_, ?_, by
        simp (dsimp := false) (implicitDefEqProofs := false) [bPick2, stc, idxD, seqOf, ixN, binD, arI, setI, setS, biD, hm, k1, cw, g2, g1, exSs, exS, evE, evT, evL, evI, evC, evW, startF, toR_nx]
        rfl⟩
      · exact Int.emod_nonneg _ (by omega)
      · exact Int.emod_lt_of_pos _ hm
    simp only [stc] at fin
    by_cases h2 : 0 < ns.length
    · have n1 : ((c + 1) % (ns.length : Int)).toNat < ns.length := by
        have := Int.emod_lt_of_pos (c + 1) (show (0 : Int) < ns.length by omega)
        have := Int.emod_nonneg (c + 1) (show (ns.length : Int) ≠ 0 by omega)
        omega
      have n2 : (c + 1) % (ns.length : Int) < ns.length := Int.emod_lt_of_pos (c + 1) (show (0 : Int) < ns.length by omega)
      have n3 : 0 ≤ (c + 1) % (ns.length : Int) := Int.emod_nonneg (c + 1) (show (ns.length : Int) ≠ 0 by omega)
      obtain ⟨r, r0, r1, er⟩ := fin (((ns[((c + 1) % (ns.length : Int)).toNat]).natAbs : Int) % 1000000007) (Int.emod_nonneg _ (by omega)) (Int.emod_lt_of_pos _ (by omega))
      refine ⟨r, a', b', ?_, r0, r1, ha', hb'⟩
      rw [run_def h rfl]
      simp (dsimp := false) (implicitDefEqProofs := false) [bPick, stc, idxD, seqOf, ixN, binD, arI, setI, setS, biD, rngIt, hl, e, cmpD, intCmp, cmpI, h1, hm, hw, h2, n1, n2, n3, abs_of, er, exSs, exS, evE, evT, evL, evI, evC, evW, startF, toR_nx]
      exact tidy_len rfl
    · obtain ⟨r, r0, r1, er⟩ := fin 0 (by omega) (by omega)
      refine ⟨r, a', b', ?_, r0, r1, ha', hb'⟩
      rw [run_def h rfl]
      simp (dsimp := false) (implicitDefEqProofs := false) [bPick, stc, idxD, seqOf, ixN, binD, arI, setI, setS, biD, rngIt, hl, e, cmpD, intCmp, cmpI, h1, hm, hw, h2, er, exSs, exS, evE, evT, evL, evI, evC, evW, startF, toR_nx]
      exact tidy_len rfl
theorem bits_lt (i : Int) : i.natAbs < 2 ^ PySem.Builtin.Int.intBits i := by
  unfold PySem.Builtin.Int.intBits
  split
  · rename_i h0
    have : i = 0 := by simpa using h0
    subst this; decide
  · exact Nat.lt_log2_self
theorem bits_le {i : Int} {k : Nat} (h : i.natAbs < 2 ^ k) : PySem.Builtin.Int.intBits i ≤ k := by
  unfold PySem.Builtin.Int.intBits
  split
  · exact Nat.zero_le _
  · rename_i h0
    have h0 : i.natAbs ≠ 0 := by
      intro e
      exact h0 (by simpa using e)
    exact (Nat.log2_lt h0).mpr h
theorem gcd_loop (C : Cs) (S : Store) : ∀ (j : Nat) (L : List D) (x y : Option D) (a b : Nat), b < 2 ^ j → 2 * j ≤ L.length → ∃ x' y', forL (.nm 2) (fun ρ S => exSs C bGcdL ρ S) [] L [some (.int a), some (.int b), x, y] S = .nx [some (.int (a.gcd b : Nat)), some (.int 0), x', y'] S
  | j, L, x, y, a, 0, hb, hl => by
    rw [Nat.gcd_zero_right]
    match L with
    | [] => exact ⟨x, y, forL_nil⟩
    | d :: L => exact ⟨some d, y, forL_bk rfl (by simp (dsimp := false) (implicitDefEqProofs := false) [setS, bGcdL, cmpD, pln, vw, eqD, exSs, exS, evE, evT, evL, evI, evC, evW, startF, toR_nx])⟩
  | 0, _, _, _, _, b + 1, hb, _ => absurd hb (by simp)
  | j + 1, L, x, y, a, b + 1, hb, hl => by
    match L, hl with
    | d :: e :: L, hl =>
      have step : ∀ (d : D) (u v : Nat) (y : Option D), exSs C bGcdL [some (.int u), some (.int (v + 1 : Nat)), some d, y] S = .nx [some (.int (v + 1 : Nat)), some (.int (u % (v + 1) : Nat)), some d, some (.int (u % (v + 1) : Nat))] S := by
        intro d u v y
        have h1 : ((v : Int) + 1 == 0) = false := by
          apply beq_eq_false_iff_ne.mpr
          omega
        have h2 : (0 : Int) < (v : Int) + 1 := by omega
        simp (dsimp := false) (implicitDefEqProofs := false) [setS, bGcdL, cmpD, pln, vw, eqD, h1, binD, arI, biD, h2, exSs, exS, evE, evT, evL, evI, evC, evW, startF, toR_nx]
      rw [forL_nx rfl (step d a b y)]
      have e1 : a.gcd (b + 1) = (b + 1).gcd (a % (b + 1)) := by rw [Nat.gcd_comm, Nat.gcd_rec, Nat.gcd_comm]
      rw [e1]
      have hr : a % (b + 1) < b + 1 := Nat.mod_lt _ (Nat.succ_pos _)
      generalize a % (b + 1) = r at hr
      cases r with
      | zero =>
        rw [Nat.gcd_zero_right]
        exact ⟨some e, some (.int ((0 : Nat) : Int)), forL_bk rfl (by simp (dsimp := false) (implicitDefEqProofs := false) [setS, bGcdL, cmpD, pln, vw, eqD, exSs, exS, evE, evT, evL, evI, evC, evW, startF, toR_nx])⟩
      | succ r =>
        rw [forL_nx rfl (step e (b + 1) r _)]
        have e2 : (b + 1).gcd (r + 1) = (r + 1).gcd ((b + 1) % (r + 1)) := by rw [Nat.gcd_comm, Nat.gcd_rec, Nat.gcd_comm]
        rw [e2]
        have hq : (b + 1) % (r + 1) < 2 ^ j := by
          have t1 : (b + 1) % (r + 1) < r + 1 := Nat.mod_lt _ (Nat.succ_pos _)
          have t2 : (b + 1) % (r + 1) ≤ b + 1 - (r + 1) := by
            rw [Nat.mod_eq_sub_mod (by omega)]
            exact Nat.mod_le _ _
          rw [Nat.pow_succ] at hb
          omega
        exact gcd_loop C S j L _ _ _ _ hq (by simp at hl; omega)
theorem gcd_of {T : Tb} {f : Nat} (h : T.fns[f]? = some ⟨2, 4, bGcd, true⟩) (a b : Int) (ha : a.natAbs < 2 ^ 100000) (hb : b.natAbs < 2 ^ 100000) (n : Nat) (S : Store) : run T (n + 1) f [.int a, .int b] S = .ok (.int (Int.gcd a b : Nat)) S := by
  have q1 := bits_le (i := (a.natAbs : Int)) (by simpa using ha)
  have q2 := bits_le (i := (b.natAbs : Int)) (by simpa using hb)
  have q3 := bits_lt (b.natAbs : Int)
  rw [Int.natAbs_natCast] at q3
  generalize hu : PySem.Builtin.Int.intBits (a.natAbs : Int) = u at q1
  generalize hv : PySem.Builtin.Int.intBits (b.natAbs : Int) = v at q2 q3
  have hk : ∃ k : Nat, (2 * (if u < v then (v : Int) else u) + 2 = (k : Int)) ∧ 2 * v ≤ k ∧ k ≤ LIM := by
    refine ⟨2 * (if v > u then v else u) + 2, ?_, ?_, ?_⟩
    · split <;> omega
    · split <;> omega
    · unfold LIM; split <;> omega
  obtain ⟨k, k1, k2, k3⟩ := hk
  obtain ⟨x', y', e⟩ := gcd_loop (csOf T n) S v (upTo 0 k) none none a.natAbs b.natAbs q3 (by
    have : ∀ (k : Nat) (i : Int), (upTo i k).length = k := by
      intro k
      induction k with
      | zero => intro i; rfl
      | succ k ih => intro i; simp [upTo, ih]
    rw [this]; exact k2)
  have w1 : ∀ i : Nat, i < 2 ^ 200 → i < Wd := fun i x => wd_n x
  have w2 : (if u < v then (v : Int) else u).natAbs < Wd := wd_n (by split <;> omega)
  rw [run_def h rfl]
  simp (dsimp := false) (implicitDefEqProofs := false) [bGcd, setS, biD, abs_of, bmOk, bmD, hu, hv, binD, arI, w1, w2, rngIt, k1, k3, e, exSs, exS, evE, evT, evL, evI, evC, evW, startF, toR_nx]
  rw [← Int.gcd_eq_natAbs_gcd_natAbs]
  exact tidy_same _ _ _
def bSameL (f : Nat) : Sts := (.cons (.ife (.not (.call f (.cons (.idx (.var 0) (.var 2)) (.cons (.idx (.var 1) (.var 2)) .nil))))
    (.cons (.ret (.bl false))
    .nil)
    .nil)
    .nil)
def bSame (f : Nat) : Sts := (.cons (.ife (.isN false (.var 1))
    (.cons (.ret (.isN false (.var 0)))
    .nil)
    .nil)
    (.cons (.ife (.isI (.var 1) [.b .bool] false)
    (.cons (.ret (.and (.isI (.var 0) [.b .bool] false) (.cmp .eq (.var 0) (.var 1))))
    .nil)
    .nil)
    (.cons (.ife (.isI (.var 1) [.b .int] false)
    (.cons (.ret (.and (.isI (.var 0) [.b .int] false) (.and (.not (.isI (.var 0) [.b .bool] false)) (.cmp .eq (.var 0) (.var 1)))))
    .nil)
    .nil)
    (.cons (.ife (.isI (.var 1) [.b .str] false)
    (.cons (.ret (.and (.isI (.var 0) [.b .str] false) (.cmp .eq (.var 0) (.var 1))))
    .nil)
    .nil)
    (.cons (.ife (.or (.not (.isI (.var 0) [.b .tuple] false)) (.cmp .ne (.bi .len false (.cons (.var 0) .nil)) (.bi .len false (.cons (.var 1) .nil))))
    (.cons (.ret (.bl false))
    .nil)
    .nil)
    (.cons (.forr (.nm 2) (.rng (.cons (.bi .len false (.cons (.var 1) .nil)) .nil))
    (bSameL f))
    (.cons (.ret (.bl true))
    .nil)))))))
@[simp] theorem bt_beq (a b : Bt) : (a == b) = decide (a = b) := rfl
mutual
/-- what _law_same compares with itself -/
def sm : Nat → D → Bool
  | _, .non => true
  | _, .bl _ => true
  | _, .int _ => true
  | _, .str s => s.all (· < 0x110000)
  | 0, .tup _ => false
  | k + 1, .tup l => decide (l.length ≤ 1000) && smL k l
  | _, _ => false
def smL : Nat → List D → Bool
  | _, [] => true
  | k, d :: l => sm k d && smL k l
end
theorem smL_get : ∀ {k : Nat} {l : List D} {i : Nat} {d : D}, smL k l = true → l[i]? = some d → sm k d = true
  | _, [], _, _, _, h => by simp at h
  | k, x :: l, 0, d, h, e => by
    simp only [smL, Bool.and_eq_true] at h
    simp only [List.getElem?_cons_zero, Option.some.injEq] at e
    rw [← e]; exact h.1
  | k, x :: l, i + 1, d, h, e => by
    simp only [smL, Bool.and_eq_true] at h
    simp only [List.getElem?_cons_succ] at e
    exact smL_get h.2 e
theorem same_loop {C : Cs} {f : Nat} {l : List D} {S : Store} (h : ∀ d ∈ l, C.fn f [d, d] S = .ok (.bl true) S) : ∀ (m i : Nat) (x : Option D), i + m = l.length → ∃ x', forL (.nm 2) (fun ρ S => exSs C (bSameL f) ρ S) [] (upTo i m) [some (.tup l), some (.tup l), x] S = .nx [some (.tup l), some (.tup l), x'] S
  | 0, i, x, _ => ⟨x, forL_nil⟩
  | m + 1, i, x, hi => by
    have hl : i < l.length := by omega
    have hl2 : (i : Int) < l.length := by omega
    obtain ⟨x', e⟩ := same_loop h m (i + 1) (some (.int i)) (by omega)
    refine ⟨x', ?_⟩
    rw [← e]
    have hd := h _ (List.getElem_mem hl)
    exact forL_nx rfl (by simp (dsimp := false) (implicitDefEqProofs := false) [setS, bSameL, idxD, seqOf, ixN, hl, hd, truD, exSs, exS, evE, evT, evL, evI, evC, evW, startF, toR_nx])
theorem same_of {T : Tb} {f : Nat} (h : T.fns[f]? = some ⟨2, 3, bSame f, true⟩) : ∀ (k : Nat) (d : D), sm k d = true → ∀ (n : Nat) (S : Store), k ≤ n → run T (n + 1) f [d, d] S = .ok (.bl true) S := by
  intro k
  induction k with
  | zero =>
    intro d hd n S _
    rw [run_def h rfl]
    cases d with
    | non => simp (dsimp := false) (implicitDefEqProofs := false) [bSame, isNo, tidy_same, exSs, exS, evE, evT, evL, evI, evC, evW, startF, toR_nx]
    | bl b => simp (dsimp := false) (implicitDefEqProofs := false) [bSame, isNo, isAny, isD, truD, cmpD, pln, vw, eqD, tidy_same, exSs, exS, evE, evT, evL, evI, evC, evW, startF, toR_nx]
    | int i => simp (dsimp := false) (implicitDefEqProofs := false) [bSame, isNo, isAny, isD, truD, cmpD, pln, vw, eqD, tidy_same, exSs, exS, evE, evT, evL, evI, evC, evW, startF, toR_nx]
    | str s =>
      simp only [sm] at hd
      simp (dsimp := false) (implicitDefEqProofs := false) [bSame, isNo, isAny, isD, truD, cmpD, pln, vw, eqD, tidy_same, hd, exSs, exS, evE, evT, evL, evI, evC, evW, startF, toR_nx]
    | _ => simp [sm] at hd
  | succ k ih =>
    intro d hd n S hn
    rw [run_def h rfl]
    cases d with
    | non => simp (dsimp := false) (implicitDefEqProofs := false) [bSame, isNo, tidy_same, exSs, exS, evE, evT, evL, evI, evC, evW, startF, toR_nx]
    | bl b => simp (dsimp := false) (implicitDefEqProofs := false) [bSame, isNo, isAny, isD, truD, cmpD, pln, vw, eqD, tidy_same, exSs, exS, evE, evT, evL, evI, evC, evW, startF, toR_nx]
    | int i => simp (dsimp := false) (implicitDefEqProofs := false) [bSame, isNo, isAny, isD, truD, cmpD, pln, vw, eqD, tidy_same, exSs, exS, evE, evT, evL, evI, evC, evW, startF, toR_nx]
    | str s =>
      simp only [sm] at hd
      simp (dsimp := false) (implicitDefEqProofs := false) [bSame, isNo, isAny, isD, truD, cmpD, pln, vw, eqD, tidy_same, hd, exSs, exS, evE, evT, evL, evI, evC, evW, startF, toR_nx]
    | tup l =>
      simp only [sm, Bool.and_eq_true, decide_eq_true_eq] at hd
      obtain ⟨n, rfl⟩ : ∃ m, n = m + 1 := ⟨n - 1, by omega⟩
      have hl := lim_le hd.1
      obtain ⟨x', e⟩ := same_loop (C := csOf T (n + 1)) (f := f) (l := l) (S := S) (fun d hm => by
        obtain ⟨i, hi⟩ := List.mem_iff_getElem?.mp hm
        exact ih d (smL_get hd.2 hi) n S (by omega)) l.length 0 none (by omega)
      have e0 : (((0 : Nat) : Int)) = 0 := rfl
      rw [e0] at e
      simp (dsimp := false) (implicitDefEqProofs := false) [bSame, isNo, isAny, isD, truD, cmpD, pln, vw, eqD, tidy_same, biD, seqOf, rngIt, hl, e, tidy_same, exSs, exS, evE, evT, evL, evI, evC, evW, startF, toR_nx]
    | _ => simp [sm] at hd
end Lg
end
section
set_option maxRecDepth 100000
set_option maxHeartbeats 8000000
/-! comprehensions, data without cells -/
namespace Lg
open Ev
theorem flt_true {α : Type} (l : List α) : l.filter (fun _ => true) = l := List.filter_eq_self.mpr fun _ _ => rfl
theorem lcL_pure {tg : Tg} {fc : Fr → Store → Rs Bool} {fe : Fr → Store → Rs D} {ρ : Fr} {g : Gd} {X : Store} (p : D → Bool) (v : D → D) (hg : ∀ c, gOk g (X ++ [c]) = true) :
    ∀ (l : List D) (acc : List D), (∀ d ∈ l, ∀ c, ∃ ρ1, setT tg d ρ (X ++ [c]) = some ρ1 ∧ fc ρ1 (X ++ [c]) = .ok (p d) (X ++ [c]) ∧ (p d = true → fe ρ1 (X ++ [c]) = .ok (v d) (X ++ [c]))) → acc.length + l.length ≤ LIM →
      lcL tg fc fe ρ g X.length l (X ++ [.lst acc]) = .ok () (X ++ [.lst (acc ++ (l.filter p).map v)])
  | [], acc, _, _ => by simp [lcL, hg]
  | d :: l, acc, h, hl => by
    obtain ⟨ρ1, h1, h2, h3⟩ := h d List.mem_cons_self (.lst acc)
    simp only [List.length_cons] at hl
    have h' : ∀ d ∈ l, ∀ c, ∃ ρ1, setT tg d ρ (X ++ [c]) = some ρ1 ∧ fc ρ1 (X ++ [c]) = .ok (p d) (X ++ [c]) ∧ (p d = true → fe ρ1 (X ++ [c]) = .ok (v d) (X ++ [c])) := fun d hd => h d (List.mem_cons_of_mem _ hd)
    simp only [lcL, hg, if_true, h1, h2, th_ok]
    cases e : p d with
    | false =>
      simp only [Bool.false_eq_true, if_false]
      rw [lcL_pure p v hg l acc h' (by omega)]
      simp [e]
    | true =>
      simp only [if_true, h3 e, th_ok]
      simp only [List.getElem?_append_right (Nat.le_refl _), Nat.sub_self, List.getElem?_cons_zero]
      rw [if_pos (by omega)]
      rw [show (X ++ [Cell.lst acc]).set X.length (.lst (acc ++ [v d])) = X ++ [Cell.lst (acc ++ [v d])] by simp]
      rw [lcL_pure p v hg l (acc ++ [v d]) h' (by simp; omega)]
      simp [e]
theorem cut_self (S : Store) (c : Cell) : cutOk S (S ++ [c]) = true := by simp [cutOk]
theorem lcE_pure {S : Store} {l : List D} (hb : belowL S.length l = true) : lcE false S (S ++ [.lst l]) = .ok (.lst l) S := by
  simp [lcE, hb, cut_self]
/-- a comprehension that changes nothing -/
theorem lc_flt {C : Cs} {own : List Nat} {tg : Tg} {it : Iter} {c : Exo} {e : Ex} {ρ : Fr} {S : Store} {l : List D} {g : Gd} (p : D → Bool) (v : D → D)
    (hw : evW C it ρ S = .ok (l, g) S) (hg : ∀ c, gOk g (S ++ [c]) = true)
    (h : ∀ d ∈ l, ∀ x, ∃ ρ1, setT tg d (wipe ρ own) (S ++ [x]) = some ρ1 ∧ evC C c ρ1 (S ++ [x]) = .ok (p d) (S ++ [x]) ∧ (p d = true → evE C e ρ1 (S ++ [x]) = .ok (v d) (S ++ [x])))
    (hl : l.length ≤ LIM) (hb : belowL S.length ((l.filter p).map v) = true) : evE C (.lc false own tg it c e) ρ S = .ok (.lst ((l.filter p).map v)) S := by
  simp only [evE, hw, th_ok]
  rw [lcL_pure (fc := fun ρ S => evC C c ρ S) (fe := fun ρ S => evE C e ρ S) p v hg l [] h (by simpa using hl)]
  simp only [Rs.nox, th_ok, List.nil_append]
  exact lcE_pure hb
theorem lc_map {C : Cs} {own : List Nat} {tg : Tg} {it : Iter} {e : Ex} {ρ : Fr} {S : Store} {l : List D} {g : Gd} (v : D → D)
    (hw : evW C it ρ S = .ok (l, g) S) (hg : ∀ c, gOk g (S ++ [c]) = true)
    (h : ∀ d ∈ l, ∀ x, ∃ ρ1, setT tg d (wipe ρ own) (S ++ [x]) = some ρ1 ∧ evE C e ρ1 (S ++ [x]) = .ok (v d) (S ++ [x]))
    (hl : l.length ≤ LIM) (hb : belowL S.length (l.map v) = true) : evE C (.lc false own tg it .no e) ρ S = .ok (.lst (l.map v)) S := by
  have q := lc_flt (C := C) (own := own) (tg := tg) (it := it) (c := .no) (e := e) (fun _ => true) v hw hg (fun d hd x => by
    obtain ⟨ρ1, h1, h2⟩ := h d hd x
    exact ⟨ρ1, h1, by simp [evC], fun _ => h2⟩) hl (by rw [flt_true]; exact hb)
  rw [flt_true] at q
  exact q
/-- two generators -/
theorem lcL2_pure {tg tg2 : Tg} {fc fc2 : Fr → Store → Rs Bool} {fw : Fr → Store → Rs (List D × Gd)} {fe : Fr → Store → Rs D} {ρ : Fr} {g : Gd} {X : Store} (w : D → List D) (v : D → D → D) (hg : ∀ c, gOk g (X ++ [c]) = true) :
    ∀ (l : List D) (acc : List D), (∀ d ∈ l, ∀ c, ∃ ρ1 g1, setT tg d ρ (X ++ [c]) = some ρ1 ∧ fc ρ1 (X ++ [c]) = .ok true (X ++ [c]) ∧ fw ρ1 (X ++ [c]) = .ok (w d, g1) (X ++ [c]) ∧ (∀ c, gOk g1 (X ++ [c]) = true) ∧
        ∀ x ∈ w d, ∀ c, ∃ ρ2, setT tg2 x (wipe ρ1 (tgIx tg2)) (X ++ [c]) = some ρ2 ∧ fc2 ρ2 (X ++ [c]) = .ok true (X ++ [c]) ∧ fe ρ2 (X ++ [c]) = .ok (v d x) (X ++ [c])) → acc.length + (l.map fun d => (w d).length).sum ≤ LIM →
      lcL2 tg fc fw tg2 fc2 fe ρ g X.length l (X ++ [.lst acc]) = .ok () (X ++ [.lst (acc ++ l.flatMap fun d => (w d).map (v d))])
  | [], acc, _, _ => by simp [lcL2, hg]
  | d :: l, acc, h, hl => by
    obtain ⟨ρ1, g1, h1, h2, h3, h4, h5⟩ := h d List.mem_cons_self (.lst acc)
    simp only [List.map_cons, List.sum_cons] at hl
    simp only [lcL2, hg, if_true, h1, h2, h3, th_ok]
    rw [lcL_pure (fun _ => true) (v d) h4 (w d) acc (fun x hx c => by
      obtain ⟨ρ2, k1, k2, k3⟩ := h5 x hx c
      exact ⟨ρ2, k1, k2, fun _ => k3⟩) (by omega)]
    simp only [th_ok, flt_true]
    rw [lcL2_pure w v hg l _ (fun d hd => h d (List.mem_cons_of_mem _ hd)) (by simp; omega)]
    simp
theorem lc2_map {C : Cs} {own : List Nat} {tg tg2 : Tg} {it it2 : Iter} {e : Ex} {ρ : Fr} {S : Store} {l : List D} {g : Gd} (w : D → List D) (v : D → D → D)
    (hw : evW C it ρ S = .ok (l, g) S) (hg : ∀ c, gOk g (S ++ [c]) = true)
    (h : ∀ d ∈ l, ∀ c, ∃ ρ1 g1, setT tg d (wipe ρ own) (S ++ [c]) = some ρ1 ∧ evW C it2 ρ1 (S ++ [c]) = .ok (w d, g1) (S ++ [c]) ∧ (∀ c, gOk g1 (S ++ [c]) = true) ∧
        ∀ x ∈ w d, ∀ c, ∃ ρ2, setT tg2 x (wipe ρ1 (tgIx tg2)) (S ++ [c]) = some ρ2 ∧ evE C e ρ2 (S ++ [c]) = .ok (v d x) (S ++ [c]))
    (hl : (l.map fun d => (w d).length).sum ≤ LIM) (hb : belowL S.length (l.flatMap fun d => (w d).map (v d)) = true) : evE C (.lc2 false own tg it .no tg2 it2 .no e) ρ S = .ok (.lst (l.flatMap fun d => (w d).map (v d))) S := by
  simp only [evE, hw, th_ok]
  rw [lcL2_pure (fc := fun ρ S => evC C .no ρ S) (fw := fun ρ S => evW C it2 ρ S) (fc2 := fun ρ S => evC C .no ρ S) (fe := fun ρ S => evE C e ρ S) w v hg l [] (fun d hd c => by
    obtain ⟨ρ1, g1, h1, h2, h3, h4⟩ := h d hd c
    refine ⟨ρ1, g1, h1, by simp [evC], h2, h3, fun x hx c => ?_⟩
    obtain ⟨ρ2, k1, k2⟩ := h4 x hx c
    exact ⟨ρ2, k1, by simp [evC], k2⟩) (by simpa using hl)]
  simp only [Rs.nox, th_ok, List.nil_append]
  exact lcE_pure hb
/-! plain data -/
mutual
theorem pln_below {n : Nat} : ∀ (k : Nat) (d : D), pln k d = true → below n d = true
  | _, .non, _ => rfl
  | _, .bl _, _ => rfl
  | _, .int _, _ => rfl
  | _, .str _, _ => rfl
  | 0, .tup _, h => by simp [pln] at h
  | 0, .lst _, h => by simp [pln] at h
  | k + 1, .tup l, h => by simp only [pln] at h; simp only [below]; exact plnL_below k l h
  | k + 1, .lst l, h => by simp only [pln] at h; simp only [below]; exact plnL_below k l h
  | _, .ref _, h => by simp [pln] at h
  | _, .obj _ _, h => by simp [pln] at h
theorem plnL_below {n : Nat} : ∀ (k : Nat) (l : List D), plnL k l = true → belowL n l = true
  | _, [], _ => rfl
  | k, d :: l, h => by
    simp only [plnL, Bool.and_eq_true] at h
    simp only [belowL, Bool.and_eq_true]
    exact ⟨pln_below k d h.1, plnL_below k l h.2⟩
end
theorem plnL_of {k : Nat} {l : List D} : (∀ d ∈ l, pln k d = true) → plnL k l = true := by
  induction l with
  | nil => intro _; rfl
  | cons d l ih => intro h; simp [plnL, h d List.mem_cons_self, ih fun x hx => h x (List.mem_cons_of_mem _ hx)]
theorem belowL_of {n : Nat} {l : List D} : (∀ d ∈ l, below n d = true) → belowL n l = true := by
  induction l with
  | nil => intro _; rfl
  | cons d l ih => intro h; simp [belowL, h d List.mem_cons_self, ih fun x hx => h x (List.mem_cons_of_mem _ hx)]
@[simp] theorem plnL_ints (k : Nat) (l : List Int) : plnL k (l.map .int) = true := plnL_of fun d hd => by
  obtain ⟨i, _, rfl⟩ := List.mem_map.mp hd
  cases k <;> rfl
@[simp] theorem belowL_ints (k : Nat) (l : List Int) : belowL k (l.map .int) = true := plnL_below 0 _ (plnL_ints 0 l)
@[simp] theorem pln_tupI (k : Nat) (l : List Int) : pln (k + 1) (tupI l) = true := by simp [tupI, pln]
@[simp] theorem plnL_tups (k : Nat) (l : List (List Int)) : plnL (k + 1) (l.map tupI) = true := plnL_of fun d hd => by
  obtain ⟨i, _, rfl⟩ := List.mem_map.mp hd
  exact pln_tupI k i
@[simp] theorem below_tupI (k : Nat) (l : List Int) : below k (tupI l) = true := pln_below 1 _ (pln_tupI 0 l)
@[simp] theorem belowL_tups (k : Nat) (l : List (List Int)) : belowL k (l.map tupI) = true := plnL_below 1 _ (plnL_tups 0 l)
@[simp] theorem allInt_ints : ∀ l : List Int, allInt (l.map .int) = some l
  | [] => rfl
  | x :: l => by simp [allInt, allInt_ints l]
theorem allTup_tups : ∀ l : List (List Int), (∀ r ∈ l, r ≠ []) → allTup (l.map tupI) = some l
  | [], _ => rfl
  | r :: l, h => by
    have h1 := allTup_tups l fun x hx => h x (List.mem_cons_of_mem _ hx)
    have h2 := h r List.mem_cons_self
    cases r with
    | nil => exact absurd rfl h2
    | cons x xs =>
      have h3 := allInt_ints (x :: xs)
      simp only [List.map_cons] at h3 h1
      rw [List.map_cons]
      unfold tupI at h1 ⊢
      simp only [List.map_cons, allTup, h3, h1]
theorem allInt_tups {r : List Int} {l : List (List Int)} : allInt ((r :: l).map tupI) = none := by simp [tupI, allInt]
@[simp] theorem eqL_ints : ∀ l r : List Int, eqL (l.map .int) (r.map .int) = decide (l = r)
  | [], [] => by simp [eqL]
  | [], _ :: _ => by simp [eqL]
  | _ :: _, [] => by simp [eqL]
  | x :: l, y :: r => by
    simp only [List.map_cons, eqL, eqD, eqL_ints l r, List.cons.injEq]
    by_cases h : x = y <;> simp [h]
@[simp] theorem eqD_tupI (l r : List Int) : eqD (tupI l) (tupI r) = decide (l = r) := by simp [tupI, eqD]
@[simp] theorem eqL_tups : ∀ l r : List (List Int), eqL (l.map tupI) (r.map tupI) = decide (l = r)
  | [], [] => by simp [eqL]
  | [], _ :: _ => by simp [eqL]
  | _ :: _, [] => by simp [eqL]
  | x :: l, y :: r => by
    simp only [List.map_cons, eqL, eqD_tupI, eqL_tups l r, List.cons.injEq]
    by_cases h : x = y <;> simp [h]
theorem any_ints (l : List Int) (p : Int) : ((l.map D.int).any fun x => eqD x (.int p)) = decide (p ∈ l) := by
  induction l with
  | nil => rfl
  | cons x l ih =>
    simp only [List.map_cons, List.any_cons, ih, eqD, List.mem_cons]
    by_cases h : x = p
    · subst h; simp
    · have : ¬ p = x := fun z => h z.symm
      simp [h, this]
theorem flD_ints (l : List Int) : (l.map D.int).all flD = true := by
  rw [List.all_eq_true]
  intro d hd
  obtain ⟨i, _, rfl⟩ := List.mem_map.mp hd
  rfl
/-- p in a tuple of ints -/
theorem inD_tupI (p : Int) (l : List Int) (S : Store) : inD (.int p) (tupI l) S = some (decide (p ∈ l)) := by
  simp only [inD, tupI, flD_ints, any_ints]
  simp [flD]
theorem inD_lst (p : Int) (l : List Int) (S : Store) : inD (.int p) (.lst (l.map .int)) S = some (decide (p ∈ l)) := by
  simp only [inD, lstOf, vw, plnL_ints, any_ints]
  simp [pln]
theorem upTo_map : ∀ (n : Nat) (i : Int), upTo i n = ((List.range n).map fun k => .int (i + (k : Nat)))
  | 0, _ => rfl
  | n + 1, i => by
    rw [upTo, upTo_map n (i + 1), List.range_succ_eq_map, List.map_cons, List.map_map]
    simp only [List.cons.injEq]
    refine ⟨by simp, List.map_congr_left fun k _ => ?_⟩
    simp only [Function.comp]
    congr 1
    push_cast
    omega
theorem upTo0 (n : Nat) : upTo 0 n = (List.range n).map fun k => .int (k : Nat) := by
  rw [upTo_map]
  exact List.map_congr_left fun k _ => by simp
theorem allBl_map {α : Type} (f : α → Bool) : ∀ l : List α, allBl (l.map fun x => .bl (f x)) = some (l.map f)
  | [] => rfl
  | x :: l => by simp [allBl, allBl_map f l]
theorem band_nat (a b : Nat) : PySem.Builtin.bitAnd (a : Int) (b : Int) = ((a &&& b : Nat) : Int) := by
  unfold PySem.Builtin.bitAnd
  simp
theorem bor_nat (a b : Nat) : PySem.Builtin.bitOr (a : Int) (b : Int) = ((a ||| b : Nat) : Int) := by
  have nn : ∀ z : Int, PySem.Builtin.bitNot (PySem.Builtin.bitNot z) = z := fun z => by
    show -(-z - 1) - 1 = z
    omega
  have h1 : decide (0 ≤ PySem.Builtin.bitNot (a : Int)) = false := decide_eq_false (by show ¬ (0 : Int) ≤ -(a : Int) - 1; omega)
  have h2 : decide (0 ≤ PySem.Builtin.bitNot (b : Int)) = false := decide_eq_false (by show ¬ (0 : Int) ≤ -(b : Int) - 1; omega)
  unfold PySem.Builtin.bitOr PySem.Builtin.bitAnd
  simp only [h1, h2, nn, Int.toNat_natCast]
theorem bit_nat (m p : Nat) : PySem.Builtin.bitAnd ((m : Int) / 2 ^ p) 1 = if m.testBit p = true then 1 else 0 := by
  have e : (m : Int) / 2 ^ p = ((m / 2 ^ p : Nat) : Int) := by push_cast; rfl
  rw [e, show (1 : Int) = ((1 : Nat) : Int) from rfl, band_nat, Nat.and_one_is_mod, Nat.testBit_eq_decide_div_mod_eq]
  have := Nat.mod_lt (m / 2 ^ p) (show 0 < 2 by decide)
  by_cases h : m / 2 ^ p % 2 = 1
  · simp [h]
  · have h0 : m / 2 ^ p % 2 = 0 := by omega
    simp [h0]
theorem gOk_app (g : Gd) (S : Store) (h : g = []) (c : Cell) : gOk g (S ++ [c]) = true := by subst h; exact gOk_nil _
end Lg
end
section
set_option maxRecDepth 100000
set_option maxHeartbeats 8000000
/-! lists of numbers as data -/
namespace Lg
open Ev
theorem pln_int (k : Nat) (i : Int) : pln k (.int i) = true := by cases k <;> rfl
def ndl (l : List Nat) : List D := l.map fun p => .int (p : Nat)
theorem ndl_len (l : List Nat) : (ndl l).length = l.length := by simp [ndl]
theorem ndl_get {l : List Nat} {k : Nat} (h : k < l.length) : (ndl l)[k]? = some (.int (l.getD k 0 : Nat)) := by simp [ndl, h]
theorem ndl_pln (k : Nat) (l : List Nat) : plnL k (ndl l) = true := plnL_of fun d hd => by
  obtain ⟨i, _, rfl⟩ := List.mem_map.mp hd
  exact pln_int _ _
theorem ndl_below (n : Nat) (l : List Nat) : belowL n (ndl l) = true := plnL_below 0 _ (ndl_pln 0 l)
theorem ndl_eq : ∀ a b : List Nat, eqL (ndl a) (ndl b) = decide (a = b)
  | [], [] => by simp [ndl, eqL]
  | [], _ :: _ => by simp [ndl, eqL]
  | _ :: _, [] => by simp [ndl, eqL]
  | x :: l, y :: r => by
    have := ndl_eq l r
    unfold ndl at this ⊢
    simp only [List.map_cons, eqL, eqD, this, List.cons.injEq]
    by_cases h : x = y
    · subst h; simp
    · have : ((x : Int) == (y : Int)) = false := beq_eq_false_iff_ne.mpr (by omega)
      simp [h, this]
theorem ndl_take (l : List Nat) (a : Nat) : (ndl l).take a = ndl (l.take a) := by unfold ndl; rw [List.map_take]
theorem ndl_drop (l : List Nat) (a : Nat) : (ndl l).drop a = ndl (l.drop a) := by unfold ndl; rw [List.map_drop]
theorem ndl_cat (l m : List Nat) : ndl l ++ ndl m = ndl (l ++ m) := by unfold ndl; rw [List.map_append]
theorem ndl_one (m : Nat) : [D.int (m : Nat)] = ndl [m] := rfl
theorem sumI_nd (l : List Nat) : sumI (l.map fun m => ((m : Nat) : Int)) = ((l.sum : Nat) : Int) := by
  induction l with
  | nil => rfl
  | cons a l ih => simp only [List.map_cons, sumI, ih, List.sum_cons]; push_cast; rfl
theorem allInt_ndl (l : List Nat) : allInt (ndl l) = some (l.map fun m => ((m : Nat) : Int)) := by
  have := allInt_ints (l.map fun m => ((m : Nat) : Int))
  rw [List.map_map] at this
  exact this
theorem ndl_app (l : List Nat) (m : Nat) : ndl (l ++ [m]) = ndl l ++ [D.int (m : Nat)] := by simp [ndl]
def dN (f : Nat → Nat) : D → D
  | .int i => .int (f i.toNat : Nat)
  | _ => .non
theorem mapDN (f : Nat → Nat) (l : List Nat) : (ndl l).map (dN f) = ndl (l.map f) := by
  unfold ndl
  rw [List.map_map, List.map_map]
  rfl
theorem cut_lo {α : Type} (l : List α) (r : Nat) (h : r ≤ l.length) : cut l none (some (r : Int)) = l.take r := by
  unfold cut sIx
  have : ¬ ((r : Int) < 0) := by omega
  simp only [this, if_false, List.drop_zero, Nat.sub_zero]
  congr 1
  omega
theorem cut_hi {α : Type} (l : List α) (r : Nat) : cut l (some (r : Int)) none = l.drop r := by
  unfold cut sIx
  have : ¬ ((r : Int) < 0) := by omega
  simp only [this, if_false, Int.toNat_natCast]
  rw [List.take_of_length_le (by rw [List.length_drop]; omega)]
  rcases Nat.lt_or_ge r l.length with h | h
  · rw [Nat.min_eq_left (by omega)]
  · rw [Nat.min_eq_right h, List.drop_eq_nil_of_le (Nat.le_refl _), List.drop_eq_nil_of_le h]
theorem take_drop_perm {α : Type} (l : List α) (r : Nat) (h : r < l.length) : (l[r] :: (l.take r ++ l.drop (r + 1))).Perm l := by
  have e : l.take r ++ l[r] :: l.drop (r + 1) = l := by rw [← List.drop_eq_getElem_cons h, List.take_append_drop]
  have := (List.perm_middle (a := l[r]) (l₁ := l.take r) (l₂ := l.drop (r + 1))).symm
  rw [e] at this
  exact this
theorem bel_mono {n : Nat} : (∀ d : D, below 0 d = true → below n d = true) ∧ ∀ l : List D, belowL 0 l = true → belowL n l = true := by
  have main : ∀ k : Nat, (∀ d : D, sizeOf d ≤ k → below 0 d = true → below n d = true) ∧ ∀ l : List D, sizeOf l ≤ k → belowL 0 l = true → belowL n l = true := by
    intro k
    induction k with
    | zero =>
      refine ⟨fun d hk => ?_, fun l hk => ?_⟩
      · cases d <;> simp at hk
      · cases l <;> simp at hk
    | succ k ih =>
      refine ⟨fun d hk h => ?_, fun l hk h => ?_⟩
      · cases d with
        | ref i => simp [below] at h
        | tup l => simp only [below] at h ⊢; simp at hk; exact ih.2 l (by omega) h
        | lst l => simp only [below] at h ⊢; simp at hk; exact ih.2 l (by omega) h
        | obj c l => simp only [below] at h ⊢; simp at hk; exact ih.2 l (by omega) h
        | _ => rfl
      · cases l with
        | nil => rfl
        | cons d l =>
          simp only [belowL, Bool.and_eq_true] at h ⊢
          simp at hk
          exact ⟨ih.1 d (by omega) h.1, ih.2 l (by omega) h.2⟩
  exact ⟨fun d h => (main _).1 d (Nat.le_refl _) h, fun l h => (main _).2 l (Nat.le_refl _) h⟩
theorem belC_mono {n : Nat} {c : Cell} (h : belowC 0 c = true) : belowC n c = true := by
  cases c <;> exact bel_mono.2 _ h
theorem nd_below (l : List Nat) : belowL 0 (l.map fun p => D.int (p : Nat)) = true := belowL_of fun d hd => by
  obtain ⟨i, _, rfl⟩ := List.mem_map.mp hd
  rfl
theorem allBl_true (l : List D) : allBl (l.map fun _ => D.bl true) = some (l.map fun _ => true) := allBl_map (fun _ => true) l
theorem all_true (l : List D) : (l.map fun _ => true).all id = true := by simp
theorem adj {α : Type} {R : α → α → Prop} {l : List α} (h : l.Pairwise R) {k : Nat} (hk : k + 1 < l.length) : R (l[k]'(by omega)) l[k + 1] := List.pairwise_iff_getElem.mp h k (k + 1) _ _ (by omega)
theorem rng1 {m : Nat} (hm : m ≤ 1000) (S : Store) : rngIt [.int ((m : Int) - 1)] S = .ok (upTo 0 (m - 1), []) S := by
  have lim : (m : Int) - 1 ≤ LIM ∧ -(LIM : Int) ≤ (m : Int) - 1 := by unfold LIM; omega
  have e : ((m : Int) - 1).toNat = m - 1 := by omega
  simp [rngIt, lim, e]
theorem filt_map (p : Int → Bool) (l : List Int) (pd : D → Bool) (h : ∀ i, pd (.int i) = p i) : ((l.map D.int).filter pd).map (fun d => d) = (l.filter p).map .int := by
  rw [List.map_id', List.filter_map]
  congr 2
  funext i
  exact h i
def dI (f : Int → Bool) : D → Bool
  | .int i => f i
  | _ => false
theorem trues (l : List D) : ((l.map fun _ => D.bl true).any fun x => eqD x (.bl false)) = false := by
  induction l with
  | nil => rfl
  | cons d l ih => simp only [List.map_cons, List.any_cons, ih]; rfl
theorem trues_pln (k : Nat) (l : List D) : plnL k (l.map fun _ => D.bl true) = true := plnL_of fun d hd => by
  obtain ⟨i, _, rfl⟩ := List.mem_map.mp hd
  cases k <;> rfl
theorem trues_below (n : Nat) (l : List D) : belowL n (l.map fun _ => D.bl true) = true := plnL_below 0 _ (trues_pln 0 l)
end Lg
end
section
set_option maxRecDepth 100000
set_option maxHeartbeats 8000000
/-! two rows of amounts spent against each other: overlaps of stretches -/
namespace Lg
open Ev
def pre (l : List Nat) (k : Nat) : Nat := (l.take k).sum
theorem pre_zero (l : List Nat) : pre l 0 = 0 := by simp [pre]
theorem pre_succ {l : List Nat} {k : Nat} (h : k < l.length) : pre l (k + 1) = pre l k + l.getD k 0 := by
  unfold pre
  rw [List.take_succ, List.sum_append_nat]
  simp [h]
theorem pre_ge {l : List Nat} {k : Nat} (h : l.length ≤ k) : pre l k = l.sum := by
  unfold pre
  rw [List.take_of_length_le h]
theorem pre_step (l : List Nat) (k : Nat) : pre l k ≤ pre l (k + 1) := by
  rcases Nat.lt_or_ge k l.length with h | h
  · rw [pre_succ h]; omega
  · rw [pre_ge h, pre_ge (by omega)]; exact Nat.le_refl _
theorem pre_mono {l : List Nat} {a b : Nat} (h : a ≤ b) : pre l a ≤ pre l b := by
  induction b with
  | zero =>
    have : a = 0 := by omega
    subst this
    exact Nat.le_refl _
  | succ b ih =>
    rcases Nat.lt_or_ge a (b + 1) with h1 | h1
    · exact Nat.le_trans (ih (by omega)) (pre_step l b)
    · have : a = b + 1 := by omega
      subst this
      exact Nat.le_refl _
theorem pre_le (l : List Nat) (k : Nat) : pre l k ≤ l.sum := by
  have := pre_mono (l := l) (show k ≤ max k l.length by omega)
  rw [pre_ge (k := max k l.length) (by omega)] at this
  exact this
def rem (l : List Nat) (t : Nat) : List Nat := (List.range l.length).map fun k => pre l (k + 1) - max (pre l k) t
def ov (l r : List Nat) (t i j : Nat) : Nat := min (min (pre l (i + 1)) (pre r (j + 1))) t - max (pre l i) (pre r j)
def tab (l r : List Nat) (t : Nat) : List (List Nat) := (List.range l.length).map fun i => (List.range r.length).map fun j => ov l r t i j
theorem rem_len (l : List Nat) (t : Nat) : (rem l t).length = l.length := by simp [rem]
theorem tab_len (l r : List Nat) (t : Nat) : (tab l r t).length = l.length := by simp [tab]
theorem rem_get {l : List Nat} {t k : Nat} (h : k < l.length) : (rem l t).getD k 0 = pre l (k + 1) - max (pre l k) t := by simp [rem, h]
theorem rem_zero (l : List Nat) : rem l 0 = l := by
  apply List.ext_getElem
  · simp [rem]
  · intro k h1 h2
    have := pre_succ h2
    simp [rem]
    rw [this]
    simp [h2]
theorem tab_zero (l r : List Nat) : tab l r 0 = (List.range l.length).map fun _ => (List.range r.length).map fun _ => 0 := by
  unfold tab
  refine List.map_congr_left fun i _ => List.map_congr_left fun j _ => ?_
  unfold ov
  omega
/-- where both stand -/
structure At (l r : List Nat) (t i j : Nat) : Prop where
  hi : i < l.length
  hj : j < r.length
  a1 : pre l i ≤ t
  a2 : t ≤ pre l (i + 1)
  b1 : pre r j ≤ t
  b2 : t ≤ pre r (j + 1)
def nxt (l r : List Nat) (i j : Nat) : Nat := min (pre l (i + 1)) (pre r (j + 1))
section
variable {l r : List Nat} {t i j : Nat}
theorem At.left (h : At l r t i j) : (rem l t).getD i 0 = pre l (i + 1) - t := by
  rw [rem_get h.hi]
  have := h.a1
  omega
theorem At.right (h : At l r t i j) : (rem r t).getD j 0 = pre r (j + 1) - t := by
  rw [rem_get h.hj]
  have := h.b1
  omega
theorem At.amount (h : At l r t i j) : min ((rem l t).getD i 0) ((rem r t).getD j 0) = nxt l r i j - t := by
  rw [h.left, h.right]
  have := h.a2
  have := h.b2
  unfold nxt
  omega
theorem rem_next {l : List Nat} {t t' i : Nat} (hi : i < l.length) (a1 : pre l i ≤ t) (h1 : t ≤ t') (h2 : t' ≤ pre l (i + 1)) : rem l t' = (rem l t).set i ((rem l t).getD i 0 - (t' - t)) := by
  apply List.ext_getElem
  · simp [rem]
  · intro k k1 k2
    rw [rem_len] at k1
    rw [List.getElem_set]
    split
    · rename_i e
      subst e
      rw [rem_get hi]
      simp [rem]
      omega
    · rename_i e
      simp [rem]
      rcases Nat.lt_or_ge k i with h | h
      · have := pre_mono (l := l) (show k + 1 ≤ i by omega)
        omega
      · have := pre_mono (l := l) (show i + 1 ≤ k by omega)
        omega
theorem At.next_l (h : At l r t i j) : rem l (nxt l r i j) = (rem l t).set i ((rem l t).getD i 0 - (nxt l r i j - t)) := by
  have := h.a2
  have := h.b2
  exact rem_next h.hi h.a1 (by unfold nxt; omega) (by unfold nxt; omega)
theorem At.next_r (h : At l r t i j) : rem r (nxt l r i j) = (rem r t).set j ((rem r t).getD j 0 - (nxt l r i j - t)) := by
  have := h.a2
  have := h.b2
  exact rem_next h.hj h.b1 (by unfold nxt; omega) (by unfold nxt; omega)
theorem At.next_t (h : At l r t i j) : tab l r (nxt l r i j) = (tab l r t).set i (((tab l r t).getD i []).set j (ov l r t i j + (nxt l r i j - t))) := by
  obtain ⟨hi, hj, a1, a2, b1, b2⟩ := h
  have hn : nxt l r i j = min (pre l (i + 1)) (pre r (j + 1)) := rfl
  apply List.ext_getElem
  · simp [tab]
  · intro k k1 k2
    rw [tab_len] at k1
    rw [List.getElem_set]
    split
    · rename_i e
      subst e
      have gi : (tab l r t).getD i [] = (List.range r.length).map fun j => ov l r t i j := by simp [tab, hi]
      rw [gi]
      simp only [tab, List.getElem_map, List.getElem_range]
      apply List.ext_getElem
      · simp
      · intro m m1 m2
        rw [List.getElem_set]
        simp only [List.getElem_map, List.getElem_range]
        split
        · rename_i e
          subst e
          unfold ov
          omega
        · rename_i e
          unfold ov
          rcases Nat.lt_or_ge m j with h | h
          · have := pre_mono (l := r) (show m + 1 ≤ j by omega)
            omega
          · have := pre_mono (l := r) (show j + 1 ≤ m by omega)
            omega
    · rename_i e
      simp only [tab, List.getElem_map, List.getElem_range]
      refine List.map_congr_left fun m _ => ?_
      unfold ov
      rcases Nat.lt_or_ge k i with h | h
      · have := pre_mono (l := l) (show k + 1 ≤ i by omega)
        omega
      · have := pre_mono (l := l) (show i + 1 ≤ k by omega)
        omega
end
/-- the whole table -/
def full (l r : List Nat) : List (List Nat) := tab l r l.sum
theorem ov_full {l r : List Nat} (i j : Nat) : ov l r l.sum i j = min (pre l (i + 1)) (pre r (j + 1)) - max (pre l i) (pre r j) := by
  unfold ov
  have := pre_le l (i + 1)
  omega
theorem row_part (l r : List Nat) (i : Nat) : ∀ n, ((List.range n).map fun j => ov l r l.sum i j).sum = min (pre l (i + 1)) (pre r n) - pre l i
  | 0 => by simp [pre_zero]
  | n + 1 => by
    rw [List.range_succ, List.map_append, List.sum_append_nat, row_part l r i n, List.map_singleton, List.sum_singleton, ov_full]
    have := pre_step l i
    have := pre_step r n
    omega
theorem col_part (l r : List Nat) (j : Nat) : ∀ n, ((List.range n).map fun i => ov l r l.sum i j).sum = min (pre r (j + 1)) (pre l n) - pre r j
  | 0 => by simp [pre_zero]
  | n + 1 => by
    rw [List.range_succ, List.map_append, List.sum_append_nat, col_part l r j n, List.map_singleton, List.sum_singleton, ov_full]
    have := pre_step r j
    have := pre_step l n
    omega
theorem row_sum {l r : List Nat} (h : l.sum = r.sum) {i : Nat} (hi : i < l.length) : ((full l r).getD i []).sum = l.getD i 0 := by
  have gi : (full l r).getD i [] = (List.range r.length).map fun j => ov l r l.sum i j := by simp [full, tab, hi]
  rw [gi, row_part, pre_ge (l := r) (Nat.le_refl _), ← h]
  have := pre_le l (i + 1)
  have := pre_succ hi
  omega
theorem col_sum {l r : List Nat} (h : l.sum = r.sum) {j : Nat} (hj : j < r.length) : ((full l r).map fun line => line.getD j 0).sum = r.getD j 0 := by
  have e : (full l r).map (fun line => line.getD j 0) = (List.range l.length).map fun i => ov l r l.sum i j := by
    unfold full tab
    rw [List.map_map]
    refine List.map_congr_left fun i _ => ?_
    simp [hj]
  rw [e, col_part, pre_ge (l := l) (Nat.le_refl _), h]
  have := pre_le r (j + 1)
  have := pre_succ hj
  omega
theorem full_row_len {l r : List Nat} : ∀ line ∈ full l r, line.length = r.length := by
  intro line h
  obtain ⟨i, _, rfl⟩ := List.mem_map.mp h
  simp
theorem full_sum {l r : List Nat} (h : l.sum = r.sum) : ((full l r).map List.sum).sum = l.sum := by
  have : (full l r).map List.sum = l := by
    apply List.ext_getElem
    · simp [full, tab]
    · intro i h1 h2
      have := row_sum h h2
      simp [full, tab] at this ⊢
      simp [h2] at this
      exact this
  rw [this]
end Lg
end
section
set_option maxRecDepth 100000
set_option maxHeartbeats 8000000
/-! least transports: labels, potentials -/
namespace Lg
/-- labels: what it costs to reach rows and columns, and from where -/
structure S4 where
  R : List (Option Int)
  C : List (Option Int)
  IR : List (Option Nat)
  IC : List (Option Nat)
def at2 (X : List (List Int)) (i j : Nat) : Int := (X.getD i []).getD j 0
def S4.r (s : S4) (i : Nat) : Option Int := s.R.getD i none
def S4.c (s : S4) (j : Nat) : Option Int := s.C.getD j none
def S4.ir (s : S4) (i : Nat) : Option Nat := s.IR.getD i none
def S4.ic (s : S4) (j : Nat) : Option Nat := s.IC.getD j none
theorem getD_set {α : Type} {l : List α} {i k : Nat} {x d : α} (h : i < l.length) : (l.set i x).getD k d = if k = i then x else l.getD k d := by
  rw [List.getD_eq_getElem?_getD, List.getD_eq_getElem?_getD, List.getElem?_set]
  by_cases e : i = k
  · subst e
    simp [h]
  · have : ¬ k = i := fun z => e z.symm
    simp [e, this]
/-- potentials -/
structure Du (m w : Nat) (P X : Nat → Nat → Int) (u v : Nat → Int) : Prop where
  le : ∀ i, i < m → ∀ j, j < w → u i + v j ≤ P i j
  eq : ∀ i, i < m → ∀ j, j < w → 0 < X i j → u i + v j = P i j
section
variable (m w : Nat) (P X : Nat → Nat → Int) (u v : Nat → Int) (L : Int) (st : Nat → Bool)
structure Lab0 (tR tC : Nat → Nat) (T : Nat) (s : S4) : Prop where
  l1 : s.R.length = m
  l2 : s.C.length = w
  l3 : s.IR.length = m
  l4 : s.IC.length = w
  rb : ∀ i, i < m → ∀ d, s.r i = some d → L ≤ d + u i
  cb : ∀ j, j < w → ∀ d, s.c j = some d → L ≤ d - v j
  sts : ∀ i, i < m → st i = true → ∃ d, s.r i = some d ∧ d ≤ 0
  ic : ∀ j, j < w → ∀ d, s.c j = some d → ∃ i, i < m ∧ s.ic j = some i ∧ ∃ e, s.r i = some e ∧ (e + P i j < d ∨ (d = e + P i j ∧ tR i < tC j))
  ir0 : ∀ i, i < m → ∀ d, s.r i = some d → s.ir i = none → d = 0 ∧ st i = true
  ir : ∀ i, i < m → ∀ j, s.ir i = some j → j < w ∧ 0 < X i j ∧ ∃ d e, s.r i = some d ∧ s.c j = some e ∧ (e - P i j < d ∨ (d = e - P i j ∧ tC j < tR i))
  nr : ∀ i, tR i < T
  nc : ∀ j, tC j < T
def Lab (s : S4) : Prop := ∃ tR tC T, Lab0 m w P X u v L st tR tC T s
end
def up {α : Type} (f : Nat → α) (i : Nat) (x : α) : Nat → α := fun k => if k = i then x else f k
section
variable {m w : Nat} {P X : Nat → Nat → Int} {u v : Nat → Int} {L : Int} {st : Nat → Bool}
def putC (s : S4) (i j : Nat) (d : Int) : S4 := { s with C := s.C.set j (some d), IC := s.IC.set j (some i) }
def putR (s : S4) (i j : Nat) (d : Int) : S4 := { s with R := s.R.set i (some d), IR := s.IR.set i (some j) }
theorem Lab.putC {s : S4} (hd : Du m w P X u v) (h : Lab m w P X u v L st s) {i j : Nat} (hi : i < m) (hj : j < w) {e : Int} (he : s.r i = some e) (hb : ∀ d, s.c j = some d → e + P i j < d) : Lab m w P X u v L st (putC s i j (e + P i j)) := by
  obtain ⟨tR, tC, T, h⟩ := h
  have cj : ∀ k, (Lg.putC s i j (e + P i j)).c k = if k = j then some (e + P i j) else s.c k := fun k => getD_set (by rw [h.l2]; exact hj)
  have icj : ∀ k, (Lg.putC s i j (e + P i j)).ic k = if k = j then some i else s.ic k := fun k => getD_set (by rw [h.l4]; exact hj)
  have rk : ∀ k, (Lg.putC s i j (e + P i j)).r k = s.r k := fun _ => rfl
  have irk : ∀ k, (Lg.putC s i j (e + P i j)).ir k = s.ir k := fun _ => rfl
  refine ⟨tR, up tC j T, T + 1, ?_⟩
  refine ⟨h.l1, by simp [Lg.putC, h.l2], h.l3, by simp [Lg.putC, h.l4], fun k hk d hd2 => h.rb k hk d hd2, fun k hk d hd2 => ?_, fun k hk hs => h.sts k hk hs, fun k hk d hd2 => ?_, fun k hk d h1 h2 => h.ir0 k hk d h1 h2, fun k hk j' h1 => ?_, fun k => Nat.lt_succ_of_lt (h.nr k), fun k => ?_⟩
  · rw [cj] at hd2
    split at hd2
    · rename_i ek
      subst ek
      cases hd2
      have := h.rb i hi e he
      have := hd.le i hi k hj
      omega
    · exact h.cb k hk d hd2
  · rw [cj] at hd2
    rw [icj]
    split at hd2
    · rename_i ek
      cases hd2
      refine ⟨i, hi, by simp [ek], e, he, .inr ⟨by rw [ek], ?_⟩⟩
      rw [ek]
      have := h.nr i
      simpa [up] using this
    · rename_i ek
      obtain ⟨i', hi', h2, e', h3, h4⟩ := h.ic k hk d hd2
      refine ⟨i', hi', by simp [ek, h2], e', h3, ?_⟩
      have : up tC j T k = tC k := by simp [up, ek]
      rw [this]
      exact h4
  · obtain ⟨h2, h3, d, e', h4, h5, h6⟩ := h.ir k hk j' h1
    refine ⟨h2, h3, ?_⟩
    rw [cj]
    by_cases ej : j' = j
    · subst ej
      have := hb e' h5
      exact ⟨d, e + P i j', h4, by simp, .inl (by omega)⟩
    · refine ⟨d, e', h4, by simp [ej, h5], ?_⟩
      have : up tC j T j' = tC j' := by simp [up, ej]
      rw [this]
      exact h6
  · unfold up
    split
    · exact Nat.lt_succ_self T
    · exact Nat.lt_succ_of_lt (h.nc k)
theorem Lab.putR {s : S4} (hd : Du m w P X u v) (h : Lab m w P X u v L st s) {i j : Nat} (hi : i < m) (hj : j < w) (hx : 0 < X i j) {e : Int} (he : s.c j = some e) (hb : ∀ d, s.r i = some d → e - P i j < d) : Lab m w P X u v L st (putR s i j (e - P i j)) := by
  obtain ⟨tR, tC, T, h⟩ := h
  have ri : ∀ k, (Lg.putR s i j (e - P i j)).r k = if k = i then some (e - P i j) else s.r k := fun k => getD_set (by rw [h.l1]; exact hi)
  have iri : ∀ k, (Lg.putR s i j (e - P i j)).ir k = if k = i then some j else s.ir k := fun k => getD_set (by rw [h.l3]; exact hi)
  refine ⟨up tR i T, tC, T + 1, ?_⟩
  refine ⟨by simp [Lg.putR, h.l1], h.l2, by simp [Lg.putR, h.l3], h.l4, fun k hk d hd2 => ?_, fun k hk d hd2 => h.cb k hk d hd2, fun k hk hs => ?_, fun k hk d hd2 => ?_, fun k hk d h1 h2 => ?_, fun k hk j' h1 => ?_, fun k => ?_, fun k => Nat.lt_succ_of_lt (h.nc k)⟩
  · rw [ri] at hd2
    split at hd2
    · rename_i ek
      subst ek
      cases hd2
      have := h.cb j hj e he
      have := hd.eq k hi j hj hx
      omega
    · exact h.rb k hk d hd2
  · rw [ri]
    obtain ⟨d, h1, h2⟩ := h.sts k hk hs
    by_cases ek : k = i
    · subst ek
      have := hb d h1
      exact ⟨e - P k j, by simp, by omega⟩
    · exact ⟨d, by simp [ek, h1], h2⟩
  · obtain ⟨i', hi', h2, e', h3, h4⟩ := h.ic k hk d hd2
    refine ⟨i', hi', h2, ?_⟩
    rw [ri]
    by_cases ek : i' = i
    · subst ek
      have := hb e' h3
      exact ⟨e - P i' j, by simp, .inl (by omega)⟩
    · refine ⟨e', by simp [ek, h3], ?_⟩
      have : up tR i T i' = tR i' := by simp [up, ek]
      rw [this]
      exact h4
  · rw [iri] at h2
    rw [ri] at h1
    split at h2
    · cases h2
    · rename_i ek
      rw [if_neg ek] at h1
      exact h.ir0 k hk d h1 h2
  · rw [iri] at h1
    split at h1
    · rename_i ek
      cases h1
      subst ek
      refine ⟨hj, hx, e - P k j, e, by rw [ri]; simp, he, .inr ⟨rfl, ?_⟩⟩
      have := h.nc j
      simpa [up] using this
    · rename_i ek
      obtain ⟨h2, h3, d, e', h4, h5, h6⟩ := h.ir k hk j' h1
      refine ⟨h2, h3, d, e', by rw [ri]; simp [ek, h4], h5, ?_⟩
      have : up tR i T k = tR k := by simp [up, ek]
      rw [this]
      exact h6
  · unfold up
    split
    · exact Nat.lt_succ_self T
    · exact Nat.lt_succ_of_lt (h.nr k)
/-! how far labels may fall -/
def non1 (l : List (Option Int)) : Nat := (l.map fun x => if x = none then 1 else 0).sum
def fall (l : List (Option Int)) (b : Nat → Int) : Nat := ((List.range l.length).map fun k => match l.getD k none with
  | some d => (d - b k).toNat
  | none => 0).sum
theorem non1_set {l : List (Option Int)} {k : Nat} {d : Int} (h : k < l.length) : (l.getD k none = none → non1 (l.set k (some d)) + 1 = non1 l) ∧ (l.getD k none ≠ none → non1 (l.set k (some d)) = non1 l) := by
  induction l generalizing k with
  | nil => simp at h
  | cons a l ih =>
    cases k with
    | zero =>
      simp [non1]
      intro e
      subst e
      simp
      omega
    | succ k =>
      have := ih (k := k) (by simpa using h)
      simp [non1] at this ⊢
      constructor
      · intro e; have := this.1 e; omega
      · intro e; exact this.2 e
theorem sum_one {f g : Nat → Nat} {k : Nat} (hg : g k < f k) (ho : ∀ i, i ≠ k → g i = f i) : ∀ n, k < n → ((List.range n).map g).sum < ((List.range n).map f).sum
  | 0, h => by omega
  | n + 1, h => by
    rw [List.range_succ, List.map_append, List.map_append, List.sum_append_nat, List.sum_append_nat]
    simp only [List.map_cons, List.map_nil, List.sum_cons, List.sum_nil]
    by_cases e : k = n
    · subst e
      have : (List.range k).map g = (List.range k).map f := List.map_congr_left fun i hi => ho i (by have := List.mem_range.mp hi; omega)
      rw [this]
      omega
    · have := sum_one hg ho n (by omega)
      have := ho n (fun z => e z.symm)
      omega
theorem fall_set {l : List (Option Int)} {b : Nat → Int} {k : Nat} {d e : Int} (h : k < l.length) (hk : l.getD k none = some e) (hd : d < e) (hb : b k ≤ d) : fall (l.set k (some d)) b < fall l b := by
  unfold fall
  rw [List.length_set]
  refine sum_one (k := k) ?_ (fun i hi => ?_) l.length h
  · rw [getD_set h, if_pos rfl, hk]
    simp only []
    omega
  · rw [getD_set h, if_neg hi]
def nones (s : S4) : Nat := non1 s.R + non1 s.C
def falls (u v : Nat → Int) (L : Int) (s : S4) : Nat := fall s.R (fun i => L - u i) + fall s.C (fun j => L + v j)
def Lt (u v : Nat → Int) (L : Int) (s' s : S4) : Prop := nones s' < nones s ∨ (nones s' = nones s ∧ falls u v L s' < falls u v L s)
theorem Lt.trans {s s' s'' : S4} (h : Lt u v L s' s) (g : Lt u v L s'' s') : Lt u v L s'' s := by
  unfold Lt at *
  omega
theorem lt_putC {s : S4} (hd : Du m w P X u v) (h : Lab m w P X u v L st s) {i j : Nat} (hi : i < m) (hj : j < w) {e : Int} (he : s.r i = some e) (hb : ∀ d, s.c j = some d → e + P i j < d) : Lt u v L (putC s i j (e + P i j)) s := by
  obtain ⟨tR, tC, T, h⟩ := h
  have hl : j < s.C.length := by rw [h.l2]; exact hj
  have n := non1_set (l := s.C) (d := e + P i j) hl
  unfold Lt nones falls putC
  simp only []
  cases hc : s.C.getD j none with
  | none => have := n.1 hc; omega
  | some d =>
    have h1 := n.2 (by rw [hc]; simp)
    have h2 := hb d hc
    have h3 := h.rb i hi e he
    have h4 := hd.le i hi j hj
    have h5 := fall_set (b := fun j => L + v j) hl hc h2 (by show L + v j ≤ _; omega)
    omega
theorem lt_putR {s : S4} (hd : Du m w P X u v) (h : Lab m w P X u v L st s) {i j : Nat} (hi : i < m) (hj : j < w) (hx : 0 < X i j) {e : Int} (he : s.c j = some e) (hb : ∀ d, s.r i = some d → e - P i j < d) : Lt u v L (putR s i j (e - P i j)) s := by
  obtain ⟨tR, tC, T, h⟩ := h
  have hl : i < s.R.length := by rw [h.l1]; exact hi
  have n := non1_set (l := s.R) (d := e - P i j) hl
  unfold Lt nones falls putR
  simp only []
  cases hc : s.R.getD i none with
  | none => have := n.1 hc; omega
  | some d =>
    have h1 := n.2 (by rw [hc]; simp)
    have h2 := hb d hc
    have h3 := h.cb j hj e he
    have h4 := hd.eq i hi j hj hx
    have h5 := fall_set (b := fun i => L - u i) hl hc h2 (by show L - u i ≤ _; omega)
    omega
/-- a part of a round: flags -/
structure Go (m w : Nat) (P X : Nat → Nat → Int) (u v : Nat → Int) (L : Int) (st : Nat → Bool) (s : S4) (c : Bool) (s' : S4) (c' : Bool) : Prop where
  lab : Lab m w P X u v L st s'
  no : c' = false → c = false ∧ s' = s
  le : s' = s ∨ Lt u v L s' s
  yes : c' = true → c = true ∨ Lt u v L s' s
theorem Go.refl {s : S4} (h : Lab m w P X u v L st s) (c : Bool) : Go m w P X u v L st s c s c := ⟨h, fun e => ⟨e, rfl⟩, .inl rfl, fun e => .inl e⟩
theorem Go.trans {s s' s'' : S4} {c c' c'' : Bool} (h : Go m w P X u v L st s c s' c') (g : Go m w P X u v L st s' c' s'' c'') : Go m w P X u v L st s c s'' c'' := by
  refine ⟨g.lab, fun e => ?_, ?_, fun e => ?_⟩
  · obtain ⟨a1, a2⟩ := g.no e
    obtain ⟨b1, b2⟩ := h.no a1
    exact ⟨b1, by rw [a2, b2]⟩
  · rcases h.le with h1 | h1
    · rcases g.le with g1 | g1
      · exact .inl (by rw [g1, h1])
      · exact .inr (by rw [← h1]; exact g1)
    · rcases g.le with g1 | g1
      · exact .inr (by rw [g1]; exact h1)
      · exact .inr (h1.trans g1)
  · rcases g.yes e with g1 | g1
    · rcases h.yes g1 with h1 | h1
      · exact .inl h1
      · rcases g.le with g2 | g2
        · exact .inr (by rw [g2]; exact h1)
        · exact .inr (h1.trans g2)
    · rcases h.le with h1 | h1
      · exact .inr (by rw [← h1]; exact g1)
      · exact .inr (h1.trans g1)
theorem Go.putC {s : S4} (hd : Du m w P X u v) (h : Lab m w P X u v L st s) {i j : Nat} (hi : i < m) (hj : j < w) {e : Int} (he : s.r i = some e) (hb : ∀ d, s.c j = some d → e + P i j < d) (c : Bool) : Go m w P X u v L st s c (putC s i j (e + P i j)) true :=
  ⟨h.putC hd hi hj he hb, (fun z => by cases z), .inr (lt_putC hd h hi hj he hb), fun _ => .inr (lt_putC hd h hi hj he hb)⟩
theorem Go.putR {s : S4} (hd : Du m w P X u v) (h : Lab m w P X u v L st s) {i j : Nat} (hi : i < m) (hj : j < w) (hx : 0 < X i j) {e : Int} (he : s.c j = some e) (hb : ∀ d, s.r i = some d → e - P i j < d) (c : Bool) : Go m w P X u v L st s c (putR s i j (e - P i j)) true :=
  ⟨h.putR hd hi hj hx he hb, (fun z => by cases z), .inr (lt_putR hd h hi hj hx he hb), fun _ => .inr (lt_putR hd h hi hj hx he hb)⟩
/-- nothing can be bettered -/
structure Fix (m w : Nat) (P X : Nat → Nat → Int) (s : S4) : Prop where
  row : ∀ i, i < m → ∀ e, s.r i = some e → ∀ j, j < w → ∃ d, s.c j = some d ∧ d ≤ e + P i j
  col : ∀ j, j < w → ∀ e, s.c j = some e → ∀ i, i < m → 0 < X i j → ∃ d, s.r i = some d ∧ d ≤ e - P i j
end
end Lg
end
section
set_option maxRecDepth 100000
set_option maxHeartbeats 8000000
/-! least transports: ways, what is sent, potentials behind it -/
namespace Lg
def sg (n : Nat) (f : Nat → Int) : Int := match n with
  | 0 => 0
  | n + 1 => sg n f + f n
theorem sg_add (f g : Nat → Int) : ∀ n, sg n (fun i => f i + g i) = sg n f + sg n g
  | 0 => rfl
  | n + 1 => by simp only [sg, sg_add f g n]; omega
theorem sg_mul (x : Int) (f : Nat → Int) : ∀ n, sg n (fun i => x * f i) = x * sg n f
  | 0 => by simp [sg]
  | n + 1 => by simp only [sg, sg_mul x f n]; rw [Int.mul_add]
theorem sg_congr {f g : Nat → Int} : ∀ {n : Nat}, (∀ i, i < n → f i = g i) → sg n f = sg n g
  | 0, _ => rfl
  | n + 1, h => by simp only [sg]; rw [sg_congr fun i hi => h i (by omega), h n (by omega)]
theorem sg_zero : ∀ n, sg n (fun _ => 0) = 0
  | 0 => rfl
  | n + 1 => by simp only [sg, sg_zero n]; rfl
theorem sg_one {k : Nat} (x : Int) : ∀ n, sg n (fun i => if i = k then x else 0) = if k < n then x else 0
  | 0 => by simp [sg]
  | n + 1 => by
    simp only [sg, sg_one x n]
    by_cases e : n = k
    · subst e
      simp
    · by_cases h : k < n
      · simp [h, e, show k < n + 1 by omega]
      · simp [h, e, show ¬ k < n + 1 by omega]
theorem sg_up (f : Nat → Int) {k n : Nat} (x : Int) (h : k < n) : sg n (up f k x) = sg n f + (x - f k) := by
  have : sg n (up f k x) = sg n (fun i => f i + if i = k then x - f k else 0) := sg_congr fun i _ => by
    unfold up
    by_cases e : i = k
    · subst e; simp; omega
    · simp [e]
  rw [this, sg_add, sg_one, if_pos h]
theorem sg_le {f g : Nat → Int} : ∀ {n : Nat}, (∀ i, i < n → f i ≤ g i) → sg n f ≤ sg n g
  | 0, _ => Int.le_refl _
  | n + 1, h => by
    simp only [sg]
    have := sg_le (n := n) fun i hi => h i (by omega)
    have := h n (by omega)
    omega
theorem sg_nn {f : Nat → Int} {n : Nat} (h : ∀ i, i < n → 0 ≤ f i) : 0 ≤ sg n f := by
  have := sg_le (f := fun _ => 0) h
  rw [sg_zero] at this
  exact this
theorem sg_pos {f : Nat → Int} : ∀ {n : Nat}, (∀ i, i < n → 0 ≤ f i) → 0 < sg n f → ∃ i, i < n ∧ 0 < f i
  | 0, _, h => by simp [sg] at h
  | n + 1, h, hs => by
    by_cases e : 0 < f n
    · exact ⟨n, by omega, e⟩
    · have := h n (by omega)
      simp only [sg] at hs
      obtain ⟨i, hi, h2⟩ := sg_pos (n := n) (fun i hi => h i (by omega)) (by omega)
      exact ⟨i, by omega, h2⟩
theorem sg_swap (f : Nat → Nat → Int) (m : Nat) : ∀ w, sg m (fun i => sg w (f i)) = sg w (fun j => sg m fun i => f i j)
  | 0 => by simp only [sg]; exact sg_zero m
  | w + 1 => by
    simp only [sg]
    rw [sg_add, sg_swap f m w]
abbrev Stp := Nat × Nat × Int
inductive Pth (s : S4) : Nat → Nat → List Stp → Prop
  | one {i j : Nat} : s.ic j = some i → s.ir i = none → Pth s j i [(i, j, 1)]
  | more {i j j' i0 : Nat} {st : List Stp} : s.ic j = some i → s.ir i = some j' → Pth s j' i0 st → Pth s j i0 ((i, j, 1) :: (i, j', -1) :: st)
def dl : List Stp → Nat → Nat → Int
  | [], _, _ => 0
  | q :: st, a, b => (if q.1 = a ∧ q.2.1 = b then q.2.2 else 0) + dl st a b
section
variable {m w : Nat} {P X : Nat → Nat → Int} {u v : Nat → Int} {L : Int} {sb : Nat → Bool} {s : S4} {tR tC : Nat → Nat} {T : Nat}
/-- both kinds of edges are tight when nothing can be bettered -/
theorem Fix.ic (f : Fix m w P X s) (h : Lab0 m w P X u v L sb tR tC T s) {j : Nat} (hj : j < w) {d : Int} (hd : s.c j = some d) : ∃ i e, i < m ∧ s.ic j = some i ∧ s.r i = some e ∧ d = e + P i j ∧ tR i < tC j := by
  obtain ⟨i, hi, h1, e, h2, h3⟩ := h.ic j hj d hd
  obtain ⟨d', h4, h5⟩ := f.row i hi e h2 j hj
  rw [hd] at h4
  cases h4
  rcases h3 with h3 | ⟨h3, h6⟩
  · omega
  · exact ⟨i, e, hi, h1, h2, h3, h6⟩
theorem Fix.ir (f : Fix m w P X s) (h : Lab0 m w P X u v L sb tR tC T s) {i j : Nat} (hi : i < m) (hr : s.ir i = some j) : j < w ∧ 0 < X i j ∧ ∃ d e, s.r i = some d ∧ s.c j = some e ∧ d = e - P i j ∧ tC j < tR i := by
  obtain ⟨h1, h2, d, e, h3, h4, h5⟩ := h.ir i hi j hr
  obtain ⟨d', h6, h7⟩ := f.col j h1 e h4 i hi h2
  rw [h3] at h6
  cases h6
  rcases h5 with h5 | ⟨h5, h8⟩
  · omega
  · exact ⟨h1, h2, d, e, h3, h4, h5, h8⟩
/-- a way to each column that is reached -/
theorem way_ex (f : Fix m w P X s) (h : Lab0 m w P X u v L sb tR tC T s) : ∀ (k j : Nat), tC j ≤ k → j < w → ∀ d, s.c j = some d → ∃ i st, i < m ∧ Pth s j i st ∧ s.ir i = none ∧ s.r i ≠ none
  | k, j, hk, hj, d, hd => by
    obtain ⟨i, e, hi, h1, h2, h3, h4⟩ := f.ic h hj hd
    cases hr : s.ir i with
    | none => exact ⟨i, _, hi, .one h1 hr, hr, by rw [h2]; simp⟩
    | some j' =>
      obtain ⟨h5, h6, d', e', h7, h8, h9, h10⟩ := f.ir h hi hr
      match k, hk with
      | 0, hk => omega
      | k + 1, hk =>
        obtain ⟨i0, st, g1, g2, g3, g4⟩ := way_ex f h k j' (by omega) h5 e' h8
        exact ⟨i0, _, g1, .more h1 hr g2, g3, g4⟩
/-- what holds of each step -/
structure PF (m w : Nat) (P X : Nat → Nat → Int) (u v : Nat → Int) (s : S4) (j0 : Nat) (d0 : Int) (q : Stp) : Prop where
  hi : q.1 < m
  hj : q.2.1 < w
  sg : q.2.2 = 1 ∨ q.2.2 = -1
  pos : q.2.2 = 1 → ∃ e, s.r q.1 = some e ∧ s.c q.2.1 = some (e + P q.1 q.2.1) ∧ e + u q.1 ≤ d0 - v j0 ∧ e + P q.1 q.2.1 - v q.2.1 ≤ d0 - v j0 ∧ (q.2.1 = j0 ∨ ∃ i', i' < m ∧ 0 < X i' q.2.1) ∧ (s.ir q.1 = none ∨ ∃ j', j' < w ∧ 0 < X q.1 j')
  neg : q.2.2 = -1 → 0 < X q.1 q.2.1
theorem pth_facts (hd : Du m w P X u v) (f : Fix m w P X s) (h : Lab0 m w P X u v L sb tR tC T s) {j0 i0 : Nat} {st : List Stp} (p : Pth s j0 i0 st) : j0 < w → ∀ d0, s.c j0 = some d0 → ∀ q ∈ st, PF m w P X u v s j0 d0 q := by
  induction p with
  | @one i j h1 h2 =>
    intro hj d0 hd0 q hq
    obtain ⟨i', e, hi, k1, k2, k3, k4⟩ := f.ic h hj hd0
    rw [h1] at k1
    cases k1
    rw [List.mem_singleton.mp hq]
    have := hd.le i hi j hj
    exact ⟨hi, hj, .inl rfl, fun _ => ⟨e, k2, by rw [hd0, k3], by show e + u i ≤ _; omega, by show e + P i j - v j ≤ _; omega, .inl rfl, .inl h2⟩, fun z => by cases z⟩
  | @more i j j' i0 st h1 h2 p ih =>
    intro hj d0 hd0 q hq
    obtain ⟨i', e, hi, k1, k2, k3, k4⟩ := f.ic h hj hd0
    rw [h1] at k1
    cases k1
    obtain ⟨k5, k6, d', e', k7, k8, k9, k10⟩ := f.ir h hi h2
    rw [k2] at k7
    cases k7
    have l1 := hd.le i hi j hj
    have l2 := hd.eq i hi j' k5 k6
    rcases List.mem_cons.mp hq with rfl | hq
    · exact ⟨hi, hj, .inl rfl, fun _ => ⟨e, k2, by rw [hd0, k3], by show e + u i ≤ _; omega, by show e + P i j - v j ≤ _; omega, .inl rfl, .inr ⟨j', k5, k6⟩⟩, fun z => by cases z⟩
    · rcases List.mem_cons.mp hq with rfl | hq
      · exact ⟨hi, k5, .inr rfl, (fun z => by cases z), fun _ => k6⟩
      · have F := ih k5 e' k8 q hq
        refine ⟨F.hi, F.hj, F.sg, fun z => ?_, F.neg⟩
        obtain ⟨e2, a1, a2, a3, a4, a5, a6⟩ := F.pos z
        refine ⟨e2, a1, a2, by omega, by omega, .inr ?_, a6⟩
        rcases a5 with a5 | a5
        · rw [a5]
          exact ⟨i, hi, k6⟩
        · exact a5
theorem dl_up (f : Fix m w P X s) (h : Lab0 m w P X u v L sb tR tC T s) {j0 i0 : Nat} {st : List Stp} (p : Pth s j0 i0 st) : j0 < w → (∃ d0, s.c j0 = some d0) → ∀ a b, tC j0 ≤ tC b → 0 ≤ dl st a b := by
  induction p with
  | @one i j h1 h2 =>
    intro hj _ a b _
    simp only [dl]
    split <;> omega
  | @more i j j' i0 st h1 h2 p ih =>
    intro hj ⟨d0, hd0⟩ a b hb
    obtain ⟨i', e, hi, k1, k2, k3, k4⟩ := f.ic h hj hd0
    rw [h1] at k1
    cases k1
    obtain ⟨k5, k6, d', e', k7, k8, k9, k10⟩ := f.ir h hi h2
    have := ih k5 ⟨e', k8⟩ a b (by omega)
    simp only [dl]
    have hn : ¬ (i = a ∧ j' = b) := fun ⟨_, z⟩ => by rw [z] at k10; omega
    rw [if_neg hn]
    split <;> omega
theorem dl_low (f : Fix m w P X s) (h : Lab0 m w P X u v L sb tR tC T s) {j0 i0 : Nat} {st : List Stp} (p : Pth s j0 i0 st) : j0 < w → (∃ d0, s.c j0 = some d0) → ∀ a b, -1 ≤ dl st a b ∧ (dl st a b < 0 → (a, b, -1) ∈ st) := by
  induction p with
  | @one i j h1 h2 =>
    intro hj _ a b
    simp only [dl]
    split <;> exact ⟨by omega, fun z => by omega⟩
  | @more i j j' i0 st h1 h2 p ih =>
    intro hj ⟨d0, hd0⟩ a b
    obtain ⟨i', e, hi, k1, k2, k3, k4⟩ := f.ic h hj hd0
    rw [h1] at k1
    cases k1
    obtain ⟨k5, k6, d', e', k7, k8, k9, k10⟩ := f.ir h hi h2
    obtain ⟨g1, g2⟩ := ih k5 ⟨e', k8⟩ a b
    simp only [dl]
    have p1 : 0 ≤ (if i = a ∧ j = b then (1 : Int) else 0) := by split <;> omega
    by_cases z : i = a ∧ j' = b
    · have g3 := dl_up f h p k5 ⟨e', k8⟩ a b (by rw [z.2]; omega)
      rw [if_pos z]
      refine ⟨by omega, fun _ => ?_⟩
      rw [← z.1, ← z.2]
      simp
    · rw [if_neg z]
      refine ⟨by omega, fun y => ?_⟩
      exact List.mem_cons_of_mem _ (List.mem_cons_of_mem _ (g2 (by omega)))
theorem dl_mem {st : List Stp} (h : ∀ q ∈ st, q.2.2 = 1 ∨ q.2.2 = -1) {a b : Nat} (hp : 0 < dl st a b) : (a, b, 1) ∈ st := by
  induction st with
  | nil => simp [dl] at hp
  | cons q st ih =>
    obtain ⟨i, j, σ⟩ := q
    simp only [dl] at hp
    by_cases z : i = a ∧ j = b
    · obtain ⟨rfl, rfl⟩ := z
      rcases h _ List.mem_cons_self with e | e
      · simp only [] at e
        subst e
        exact List.mem_cons_self
      · simp only [] at e
        subst e
        simp only [true_and, if_true, and_self] at hp
        exact List.mem_cons_of_mem _ (ih (fun q hq => h q (List.mem_cons_of_mem _ hq)) (by omega))
    · rw [if_neg z] at hp
      exact List.mem_cons_of_mem _ (ih (fun q hq => h q (List.mem_cons_of_mem _ hq)) (by omega))
theorem dl_row {j0 i0 : Nat} {st : List Stp} (p : Pth s j0 i0 st) (hw : ∀ q ∈ st, q.2.1 < w) (a : Nat) : sg w (fun b => dl st a b) = if a = i0 then 1 else 0 := by
  have one (i j : Nat) (x : Int) (hj : j < w) : sg w (fun b => if i = a ∧ j = b then x else 0) = if a = i then x else 0 := by
    by_cases e : i = a
    · have : sg w (fun b => if i = a ∧ j = b then x else 0) = sg w (fun b => if b = j then x else 0) := sg_congr fun b _ => by
        by_cases z : b = j
        · simp [e, z]
        · have : ¬ j = b := fun y => z y.symm
          simp [e, z, this]
      rw [this, sg_one, if_pos hj, if_pos e.symm]
    · have : sg w (fun b => if i = a ∧ j = b then x else 0) = sg w (fun _ => 0) := sg_congr fun b _ => by simp [e]
      rw [this, sg_zero, if_neg fun z => e z.symm]
  induction p with
  | @one i j h1 h2 =>
    have := one i j 1 (hw (i, j, 1) (by simp))
    simp only [dl, sg_add, sg_zero, this]
    omega
  | @more i j j' i0 st h1 h2 p ih =>
    have e1 := one i j 1 (hw (i, j, 1) (by simp))
    have e2 := one i j' (-1) (hw (i, j', -1) (by simp))
    have e3 := ih fun q hq => hw q (by simp [hq])
    simp only [dl, sg_add, e1, e2, e3]
    split <;> omega
theorem dl_col {j0 i0 : Nat} {st : List Stp} (p : Pth s j0 i0 st) (hw : ∀ q ∈ st, q.1 < m) (b : Nat) : sg m (fun a => dl st a b) = if b = j0 then 1 else 0 := by
  have one (i j : Nat) (x : Int) (hi : i < m) : sg m (fun a => if i = a ∧ j = b then x else 0) = if b = j then x else 0 := by
    by_cases e : j = b
    · have : sg m (fun a => if i = a ∧ j = b then x else 0) = sg m (fun a => if a = i then x else 0) := sg_congr fun a _ => by
        by_cases z : a = i
        · simp [e, z]
        · have : ¬ i = a := fun y => z y.symm
          simp [e, z, this]
      rw [this, sg_one, if_pos hi, if_pos e.symm]
    · have : sg m (fun a => if i = a ∧ j = b then x else 0) = sg m (fun _ => 0) := sg_congr fun a _ => by simp [e]
      rw [this, sg_zero, if_neg fun z => e z.symm]
  induction p with
  | @one i j h1 h2 =>
    have := one i j 1 (hw (i, j, 1) (by simp))
    simp only [dl, sg_add, sg_zero, this]
    omega
  | @more i j j' i0 st h1 h2 p ih =>
    have e1 := one i j 1 (hw (i, j, 1) (by simp))
    have e2 := one i j' (-1) (hw (i, j', -1) (by simp))
    have e3 := ih fun q hq => hw q (by simp [hq])
    simp only [dl, sg_add, e1, e2, e3]
    split <;> split <;> omega
end
/-- where the sending stands -/
structure Fl (m w : Nat) (l r : Nat → Int) (P : Nat → Nat → Int) (a c : Nat → Int) (X : Nat → Nat → Int) : Prop where
  a0 : ∀ i, i < m → 0 ≤ a i
  c0 : ∀ j, j < w → 0 ≤ c j
  x0 : ∀ i, i < m → ∀ j, j < w → 0 ≤ X i j
  row : ∀ i, i < m → a i + sg w (X i) = l i
  col : ∀ j, j < w → c j + sg m (fun i => X i j) = r j
  du : ∃ u v V, Du m w P X u v ∧ (∀ i, i < m → 0 < a i → 0 ≤ u i) ∧ (∀ i, i < m → ∀ j, j < w → 0 < X i j → u i ≤ 0) ∧ (∀ j, j < w → 0 < c j → V ≤ v j) ∧ (∀ i, i < m → ∀ j, j < w → 0 < X i j → v j ≤ V)
end Lg
end
section
set_option maxRecDepth 100000
set_option maxHeartbeats 8000000
namespace Lg
section
variable {m w : Nat} {l r : Nat → Int} {P X : Nat → Nat → Int} {a c : Nat → Int} {s : S4}
/-- sending A along a cheapest way keeps all that is asked -/
theorem Fl.send (F : Fl m w l r P a c X) {u v : Nat → Int} {V : Int} (hd : Du m w P X u v) (hu1 : ∀ i, i < m → 0 < a i → 0 ≤ u i) (hu2 : ∀ i, i < m → ∀ j, j < w → 0 < X i j → u i ≤ 0) (hv1 : ∀ j, j < w → 0 < c j → V ≤ v j) (hv2 : ∀ i, i < m → ∀ j, j < w → 0 < X i j → v j ≤ V)
    (h : Lab m w P X u v 0 (fun i => decide (0 < a i)) s) (f : Fix m w P X s) (hall : ∀ j, j < w → ∃ d, s.c j = some d)
    {t i0 : Nat} {st : List Stp} (ht : t < w) (hct : 0 < c t) {D : Int} (hD : s.c t = some D) (hmin : ∀ j, j < w → 0 < c j → ∀ d, s.c j = some d → D ≤ d)
    (hi0 : i0 < m) (p : Pth s t i0 st) {A : Int} (hA : 0 ≤ A) (hA1 : A ≤ a i0) (hA2 : A ≤ c t) (hA3 : ∀ q ∈ st, q.2.2 = -1 → A ≤ X q.1 q.2.1) :
    Fl m w l r P (up a i0 (a i0 - A)) (up c t (c t - A)) (fun i j => X i j + A * dl st i j) := by
  obtain ⟨tR, tC, T, h⟩ := h
  have pf := pth_facts hd f h p ht D hD
  have low := dl_low f h p ht ⟨D, hD⟩
  have hs : ∀ q ∈ st, q.2.2 = 1 ∨ q.2.2 = -1 := fun q hq => (pf q hq).sg
  have xn : ∀ i, i < m → ∀ j, j < w → 0 ≤ X i j + A * dl st i j := by
    intro i hi j hj
    obtain ⟨g1, g2⟩ := low i j
    have := F.x0 i hi j hj
    by_cases z : dl st i j < 0
    · have z1 : dl st i j = -1 := by omega
      have := hA3 _ (g2 z) rfl
      simp only [] at this
      rw [z1]
      omega
    · have : 0 ≤ A * dl st i j := Int.mul_nonneg hA (by omega)
      omega
  have cv := h.cb t ht D hD
  have vt := hv1 t ht hct
  -- a place with something behind it
  have cs : ∀ i, i < m → ∀ j, j < w → 0 < X i j + A * dl st i j → 0 < X i j ∨ (i, j, 1) ∈ st := by
    intro i hi j hj z
    by_cases y : 0 < X i j
    · exact .inl y
    · have := F.x0 i hi j hj
      refine .inr (dl_mem hs ?_)
      have : 0 < A * dl st i j := by omega
      rcases Int.lt_or_le 0 (dl st i j) with k | k
      · exact k
      · have := Int.mul_le_mul_of_nonneg_left k hA
        omega
  refine ⟨fun i hi => ?_, fun j hj => ?_, xn, fun i hi => ?_, fun j hj => ?_, ?_⟩
  · unfold up
    split
    · omega
    · exact F.a0 i hi
  · unfold up
    split
    · omega
    · exact F.c0 j hj
  · have e := dl_row p (fun q hq => (pf q hq).hj) i
    have := F.row i hi
    rw [sg_add, sg_mul, e]
    unfold up
    by_cases z : i = i0
    · subst z
      simp only [if_true]
      omega
    · simp only [if_neg z]
      omega
  · have e := dl_col p (fun q hq => (pf q hq).hi) j
    have := F.col j hj
    rw [sg_add, sg_mul, e]
    unfold up
    by_cases z : j = t
    · subst z
      simp only [if_true]
      omega
    · simp only [if_neg z]
      omega
  · refine ⟨fun i => match s.r i with
      | some d => max (-d) (u i - (D - V))
      | none => u i - (D - V), fun j => match s.c j with
      | some d => min d (v j + (D - V))
      | none => 0, D, ⟨fun i hi j hj => ?_, fun i hi j hj hx => ?_⟩, fun i hi hai => ?_, fun i hi j hj hx => ?_, fun j hj hcj => ?_, fun i hi j hj hx => ?_⟩
    · obtain ⟨d, ed⟩ := hall j hj
      have := hd.le i hi j hj
      simp only [ed]
      cases er : s.r i with
      | none => simp only []; omega
      | some e =>
        obtain ⟨d', h1, h2⟩ := f.row i hi e er j hj
        rw [ed] at h1
        cases h1
        simp only []
        omega
    · obtain ⟨d, ed⟩ := hall j hj
      simp only [ed]
      rcases cs i hi j hj hx with hx | hx
      · obtain ⟨e, er, h2⟩ := f.col j hj d ed i hi hx
        obtain ⟨d', h3, h4⟩ := f.row i hi e er j hj
        rw [ed] at h3
        cases h3
        have := hd.eq i hi j hj hx
        simp only [er]
        omega
      · obtain ⟨e, er, h1, h2, h3, h4, h5⟩ := (pf _ hx).pos rfl
        simp only [] at er h1 h2 h3
        rw [ed] at h1
        cases h1
        simp only [er]
        omega
    · have : 0 < a i := by
        unfold up at hai
        split at hai
        · rename_i z
          subst z
          omega
        · exact hai
      have := hu1 i hi this
      obtain ⟨d, h1, h2⟩ := h.sts i hi (by simpa using by assumption)
      simp only [h1]
      omega
    · rcases cs i hi j hj hx with hx | hx
      · obtain ⟨d, ed⟩ := hall j hj
        obtain ⟨e, er, h2⟩ := f.col j hj d ed i hi hx
        have := hu2 i hi j hj hx
        have := h.rb i hi e er
        simp only [er]
        omega
      · obtain ⟨e, er, h1, h2, h3, h4, h5⟩ := (pf _ hx).pos rfl
        simp only [] at er h2 h5
        have e0 : 0 ≤ e := by
          rcases h5 with h5 | ⟨j', hj', hx'⟩
          · have := (h.ir0 i hi e er h5).1
            omega
          · have := hu2 i hi j' hj' hx'
            have := h.rb i hi e er
            omega
        simp only [er]
        omega
    · have : 0 < c j := by
        unfold up at hcj
        split at hcj
        · rename_i z
          subst z
          omega
        · exact hcj
      have := hv1 j hj this
      obtain ⟨d, ed⟩ := hall j hj
      have := hmin j hj (by assumption) d ed
      simp only [ed]
      omega
    · obtain ⟨d, ed⟩ := hall j hj
      simp only [ed]
      rcases cs i hi j hj hx with hx | hx
      · have := hv2 i hi j hj hx
        omega
      · obtain ⟨e, er, h1, h2, h3, h4, h5⟩ := (pf _ hx).pos rfl
        simp only [] at h4
        rcases h4 with rfl | ⟨i', hi', hx'⟩
        · rw [hD] at ed
          cases ed
          omega
        · have := hv2 i' hi' j hj hx'
          omega
/-- at the end -/
theorem Fl.sums (F : Fl m w l r P a c X) (hs : sg m l = sg w r) : sg m a = sg w c := by
  have h1 : sg m l = sg m a + sg m (fun i => sg w (X i)) := by
    rw [← sg_add]
    exact sg_congr fun i hi => (F.row i hi).symm
  have h2 : sg w r = sg w c + sg w (fun j => sg m fun i => X i j) := by
    rw [← sg_add]
    exact sg_congr fun j hj => (F.col j hj).symm
  rw [← sg_swap] at h2
  omega
def cst (m w : Nat) (P X : Nat → Nat → Int) : Int := sg m fun i => sg w fun j => P i j * X i j
theorem sg_zz {f : Nat → Int} {n : Nat} (h : ∀ i, i < n → 0 ≤ f i) (hz : sg n f ≤ 0) : ∀ i, i < n → f i = 0 := by
  intro i hi
  have hle := sg_le (f := up (fun _ => 0) i (f i)) (g := f) (n := n) fun k hk => by
    unfold up
    split
    · rename_i e
      subst e
      exact Int.le_refl _
    · exact h k hk
  rw [sg_up _ _ hi, sg_zero] at hle
  have := h i hi
  omega
theorem dual_val (u v : Nat → Int) (X : Nat → Nat → Int) (hr : ∀ i, i < m → sg w (X i) = l i) (hc : ∀ j, j < w → sg m (fun i => X i j) = r j) : sg m (fun i => sg w fun j => (u i + v j) * X i j) = sg m (fun i => u i * l i) + sg w (fun j => v j * r j) := by
  have e1 : sg m (fun i => sg w fun j => (u i + v j) * X i j) = sg m (fun i => u i * l i) + sg m (fun i => sg w fun j => v j * X i j) := by
    rw [← sg_add]
    refine sg_congr fun i hi => ?_
    rw [← hr i hi, ← sg_mul, ← sg_add]
    exact sg_congr fun j hj => Int.add_mul ..
  rw [e1, sg_swap]
  congr 1
  refine sg_congr fun j hj => ?_
  rw [sg_mul, hc j hj]
/-- potentials are below each table's cost, and meet it where it is tight -/
theorem cst_ge {u v : Nat → Int} {Y : Nat → Nat → Int} (hle : ∀ i, i < m → ∀ j, j < w → u i + v j ≤ P i j) (y0 : ∀ i, i < m → ∀ j, j < w → 0 ≤ Y i j) (hr : ∀ i, i < m → sg w (Y i) = l i) (hc : ∀ j, j < w → sg m (fun i => Y i j) = r j) : sg m (fun i => u i * l i) + sg w (fun j => v j * r j) ≤ cst m w P Y := by
  rw [← dual_val u v Y hr hc]
  exact sg_le fun i hi => sg_le fun j hj => Int.mul_le_mul_of_nonneg_right (hle i hi j hj) (y0 i hi j hj)
theorem cst_eq {u v : Nat → Int} {Y : Nat → Nat → Int} (he : ∀ i, i < m → ∀ j, j < w → 0 < Y i j → u i + v j = P i j) (y0 : ∀ i, i < m → ∀ j, j < w → 0 ≤ Y i j) (hr : ∀ i, i < m → sg w (Y i) = l i) (hc : ∀ j, j < w → sg m (fun i => Y i j) = r j) : cst m w P Y = sg m (fun i => u i * l i) + sg w (fun j => v j * r j) := by
  rw [← dual_val u v Y hr hc]
  refine sg_congr fun i hi => sg_congr fun j hj => ?_
  rcases Int.lt_or_le 0 (Y i j) with h | h
  · rw [he i hi j hj h]
  · have : Y i j = 0 := Int.le_antisymm h (y0 i hi j hj)
    rw [this, Int.mul_zero, Int.mul_zero]
end
end Lg
end
section
set_option maxRecDepth 100000
set_option maxHeartbeats 8000000
namespace Lg
section
variable {m w : Nat} {P X : Nat → Nat → Int} {u v : Nat → Int} {L : Int} {sb : Nat → Bool} {s : S4} {tR tC : Nat → Nat} {T : Nat}
theorem pth_len0 (f : Fix m w P X s) (h : Lab0 m w P X u v L sb tR tC T s) {j0 i0 : Nat} {st : List Stp} (p : Pth s j0 i0 st) : j0 < w → (∃ d0, s.c j0 = some d0) → ∃ cl : List Nat, cl.Nodup ∧ (∀ k ∈ cl, k < w ∧ tC k ≤ tC j0) ∧ st.length + 1 ≤ 2 * cl.length := by
  induction p with
  | @one i j h1 h2 =>
    intro hj _
    exact ⟨[j], by simp, fun k hk => by rw [List.mem_singleton.mp hk]; exact ⟨hj, Nat.le_refl _⟩, by simp⟩
  | @more i j j' i0 st h1 h2 p ih =>
    intro hj ⟨d0, hd0⟩
    obtain ⟨i', e, hi, k1, k2, k3, k4⟩ := f.ic h hj hd0
    rw [h1] at k1
    cases k1
    obtain ⟨k5, k6, d', e', k7, k8, k9, k10⟩ := f.ir h hi h2
    obtain ⟨cl, c1, c2, c3⟩ := ih k5 ⟨e', k8⟩
    refine ⟨j :: cl, List.nodup_cons.mpr ⟨fun z => ?_, c1⟩, fun k hk => ?_, by simp only [List.length_cons]; omega⟩
    · have := (c2 j z).2
      omega
    · rcases List.mem_cons.mp hk with rfl | hk
      · exact ⟨hj, Nat.le_refl _⟩
      · have := c2 k hk
        exact ⟨this.1, by omega⟩
theorem pth_len (f : Fix m w P X s) (h : Lab0 m w P X u v L sb tR tC T s) {j0 i0 : Nat} {st : List Stp} (p : Pth s j0 i0 st) (hj : j0 < w) (hd : ∃ d0, s.c j0 = some d0) : st.length ≤ 2 * w := by
  obtain ⟨cl, c1, c2, c3⟩ := pth_len0 f h p hj hd
  have := c1.length_le_of_subset (l₂ := List.range w) fun k hk => List.mem_range.mpr (c2 k hk).1
  rw [List.length_range] at this
  omega
end
/-! the steps are sent -/
def app1 (A : Int) (X : List (List Int)) (q : Stp) : List (List Int) := X.set q.1 ((X.getD q.1 []).set q.2.1 (at2 X q.1 q.2.1 + q.2.2 * A))
def appS (A : Int) : List (List Int) → List Stp → List (List Int)
  | X, [] => X
  | X, q :: st => appS A (app1 A X q) st
theorem app1_at {A : Int} {X : List (List Int)} {q : Stp} {w : Nat} (h1 : q.1 < X.length) (h2 : q.2.1 < (X.getD q.1 []).length) (i j : Nat) : at2 (app1 A X q) i j = at2 X i j + if q.1 = i ∧ q.2.1 = j then q.2.2 * A else 0 := by
  unfold at2 app1
  rw [getD_set h1]
  by_cases e : i = q.1
  · subst e
    rw [if_pos rfl, getD_set h2]
    by_cases e2 : j = q.2.1
    · subst e2
      simp [at2]
    · have : ¬ q.2.1 = j := fun z => e2 z.symm
      simp [e2, this]
  · have : ¬ q.1 = i := fun z => e z.symm
    simp [e, this]
theorem app1_len {A : Int} {X : List (List Int)} {q : Stp} : (app1 A X q).length = X.length := by simp [app1]
theorem app1_row {A : Int} {X : List (List Int)} {q : Stp} (h1 : q.1 < X.length) (i : Nat) : ((app1 A X q).getD i []).length = (X.getD i []).length := by
  unfold app1
  rw [getD_set h1]
  by_cases e : i = q.1
  · subst e; simp
  · simp [e]
theorem appS_sh {A : Int} {m w : Nat} : ∀ (st : List Stp) (X : List (List Int)), X.length = m → (∀ i, i < m → (X.getD i []).length = w) → (∀ q ∈ st, q.1 < m ∧ q.2.1 < w) →
    (appS A X st).length = m ∧ (∀ i, i < m → ((appS A X st).getD i []).length = w) ∧ ∀ i j, at2 (appS A X st) i j = at2 X i j + A * dl st i j
  | [], X, h1, h2, _ => ⟨h1, h2, fun i j => by simp [appS, dl]⟩
  | q :: st, X, h1, h2, hq => by
    obtain ⟨hi, hj⟩ := hq q List.mem_cons_self
    have l1 : q.1 < X.length := by omega
    have l2 : q.2.1 < (X.getD q.1 []).length := by rw [h2 q.1 hi]; exact hj
    obtain ⟨g1, g2, g3⟩ := appS_sh (A := A) st (app1 A X q) (by rw [app1_len, h1]) (fun i hi' => by rw [app1_row l1, h2 i hi']) fun p hp => hq p (List.mem_cons_of_mem _ hp)
    refine ⟨g1, g2, fun i j => ?_⟩
    show at2 (appS A (app1 A X q) st) i j = _
    rw [g3, app1_at (w := w) l1 l2]
    simp only [dl]
    rw [Int.mul_add]
    split
    · rw [Int.mul_comm]; omega
    · omega
/-- labels at the beginning -/
def s0 (a : List Int) (m w : Nat) : S4 := ⟨a.map fun x => if 0 < x then some 0 else none, List.replicate w none, List.replicate m none, List.replicate w none⟩
theorem s0_r {a : List Int} {m w i : Nat} (h : i < a.length) : (s0 a m w).r i = if 0 < a.getD i 0 then some 0 else none := by
  unfold S4.r s0
  simp [h]
theorem rep_getD {α : Type} (n k : Nat) (x : α) : (List.replicate n x).getD k x = x := by
  rw [List.getD_eq_getElem?_getD, List.getElem?_replicate]
  split <;> rfl
theorem s0_c {a : List Int} {m w j : Nat} : (s0 a m w).c j = none := rep_getD _ _ _
theorem s0_ir {a : List Int} {m w j : Nat} : (s0 a m w).ir j = none := rep_getD _ _ _
theorem s0_lab {a : List Int} {m w : Nat} {P X : Nat → Nat → Int} {u v : Nat → Int} {L : Int} {sb : Nat → Bool} (ha : a.length = m) (hu : ∀ i, i < m → 0 < a.getD i 0 → L ≤ u i) (hs : ∀ i, i < m → (sb i = true ↔ 0 < a.getD i 0)) : Lab m w P X u v L sb (s0 a m w) := by
  refine ⟨fun _ => 0, fun _ => 0, 1, by simp [s0, ha], by simp [s0], by simp [s0], by simp [s0], fun i hi d hd => ?_, fun j hj d hd => ?_, fun i hi h => ?_, fun j hj d hd => ?_, fun i hi d hd _ => ?_, fun i hi j h => ?_, fun _ => by omega, fun _ => by omega⟩
  · rw [s0_r (by omega)] at hd
    split at hd
    · cases hd
      have := hu i hi (by assumption)
      omega
    · cases hd
  · rw [s0_c] at hd; cases hd
  · rw [s0_r (by omega), if_pos ((hs i hi).mp h)]
    exact ⟨0, rfl, Int.le_refl _⟩
  · rw [s0_c] at hd; cases hd
  · rw [s0_r (by omega)] at hd
    split at hd
    · cases hd
      exact ⟨rfl, (hs i hi).mpr (by assumption)⟩
    · cases hd
  · rw [s0_ir] at h; cases h
/-- bounds of prices -/
theorem bnd1 (f : Nat → Int) : ∀ n, ∃ B : Int, ∀ i, i < n → -B ≤ f i
  | 0 => ⟨0, fun i h => by omega⟩
  | n + 1 => by
    obtain ⟨B, h⟩ := bnd1 f n
    refine ⟨max B (-(f n)), fun i hi => ?_⟩
    by_cases e : i = n
    · subst e; omega
    · have := h i (by omega); omega
theorem bnd2 (P : Nat → Nat → Int) (w : Nat) : ∀ m, ∃ B : Int, ∀ i, i < m → ∀ j, j < w → -B ≤ P i j
  | 0 => ⟨0, fun i h => by omega⟩
  | m + 1 => by
    obtain ⟨B, h⟩ := bnd2 P w m
    obtain ⟨B2, h2⟩ := bnd1 (P m) w
    refine ⟨max B B2, fun i hi j hj => ?_⟩
    by_cases e : i = m
    · subst e; have := h2 j hj; omega
    · have := h i (by omega) j hj; omega
theorem Fl.start {m w : Nat} {l r : Nat → Int} {P X : Nat → Nat → Int} (hl : ∀ i, i < m → 0 ≤ l i) (hr : ∀ j, j < w → 0 ≤ r j) (hx : ∀ i j, X i j = 0) : Fl m w l r P l r X := by
  obtain ⟨B, hB⟩ := bnd2 P w m
  have z1 : ∀ i, sg w (X i) = 0 := fun i => by rw [sg_congr (g := fun _ => 0) fun j _ => hx i j, sg_zero]
  have z2 : ∀ j, sg m (fun i => X i j) = 0 := fun j => by rw [sg_congr (g := fun _ => 0) fun i _ => hx i j, sg_zero]
  refine ⟨hl, hr, fun i _ j _ => by rw [hx]; omega, fun i _ => by rw [z1]; omega, fun j _ => by rw [z2]; omega, fun _ => 0, fun _ => -B, -B, ⟨fun i hi j hj => ?_, fun i _ j _ h => ?_⟩, fun _ _ _ => Int.le_refl _, fun i _ j _ h => ?_, fun _ _ _ => Int.le_refl _, fun i _ j _ h => ?_⟩
  · have := hB i hi j hj; omega
  · rw [hx] at h; omega
  · rw [hx] at h; omega
  · rw [hx] at h; omega
end Lg
namespace Lg
open Ev
theorem bel_le {n n' : Nat} (h : n ≤ n') : (∀ d : D, below n d = true → below n' d = true) ∧ ∀ l : List D, belowL n l = true → belowL n' l = true := by
  constructor
  · intro d
    induction d using D.rec (motive_2 := fun l => belowL n l = true → belowL n' l = true) with
    | _ => simp_all [below, belowL] <;> omega
  · intro l
    induction l using D.rec_1 (motive_1 := fun d => below n d = true → below n' d = true) with
    | _ => simp_all [below, belowL] <;> omega
theorem belC_le {n n' : Nat} (h : n ≤ n') {c : Cell} (hc : belowC n c = true) : belowC n' c = true := by
  cases c with
  | lst l => exact (bel_le h).2 l hc
  | ins k fs => exact (bel_le h).2 _ hc
  | dct lk kvs => exact (bel_le h).2 _ hc
end Lg
end
section
set_option maxRecDepth 100000
set_option maxHeartbeats 4000000
/-! tables with given margins, counted -/
namespace Lg
def S (n : Nat) (f : Nat → Nat) : Nat := match n with
  | 0 => 0
  | n + 1 => S n f + f n
theorem S_congr {f g : Nat → Nat} : ∀ {n : Nat}, (∀ i, i < n → f i = g i) → S n f = S n g
  | 0, _ => rfl
  | n + 1, h => by
    simp only [S]
    rw [S_congr fun i hi => h i (by omega), h n (by omega)]
theorem S_zero : ∀ n, S n (fun _ => 0) = 0
  | 0 => rfl
  | n + 1 => by simp only [S, S_zero n]
theorem S_add (f g : Nat → Nat) : ∀ n, S n (fun i => f i + g i) = S n f + S n g
  | 0 => rfl
  | n + 1 => by
    simp only [S, S_add f g n]
    omega
theorem S_swap (f : Nat → Nat → Nat) (m : Nat) : ∀ w, S m (fun i => S w (f i)) = S w (fun j => S m fun i => f i j)
  | 0 => by simp only [S]; exact S_zero m
  | w + 1 => by
    simp only [S]
    rw [S_add, S_swap f m w]
theorem S_mul (x : Nat) (f : Nat → Nat) : ∀ n, S n (fun i => x * f i) = x * S n f
  | 0 => rfl
  | n + 1 => by
    simp only [S, S_mul x f n]
    rw [Nat.mul_add]
/-- what stands above nothing -/
theorem S_cut {f : Nat → Nat} {n : Nat} : ∀ {m : Nat}, n ≤ m → (∀ i, n ≤ i → i < m → f i = 0) → S m f = S n f
  | 0, h, _ => by rw [show n = 0 by omega]
  | m + 1, h, z => by
    by_cases e : n = m + 1
    · rw [e]
    · simp only [S]
      rw [S_cut (n := n) (by omega) fun i h1 h2 => z i h1 (by omega), z m (by omega) (by omega)]
      rfl
/-- all that is left when a is taken out of cs -/
def R : List Nat → Nat → (List Nat → Nat) → Nat
  | [], a, f => if a = 0 then f [] else 0
  | c :: cs, a, f => S (c + 1) fun x => if x ≤ a then R cs (a - x) (fun z => f ((c - x) :: z)) else 0
theorem R_congr : ∀ {cs : List Nat} {a : Nat} {f g : List Nat → Nat}, (∀ z, z.length = cs.length → z.sum + a = cs.sum → f z = g z) → R cs a f = R cs a g
  | [], a, f, g, h => by
    simp only [R]
    split
    · rename_i e
      exact h [] rfl (by simp [e])
    · rfl
  | c :: cs, a, f, g, h => by
    simp only [R]
    refine S_congr fun x hx => ?_
    split
    · refine R_congr fun z hz hs => h _ (by simp [hz]) (by simp; omega)
    · rfl
theorem R_zero : ∀ (cs : List Nat) (a : Nat), R cs a (fun _ => 0) = 0
  | [], a => by simp [R]
  | c :: cs, a => by
    simp only [R]
    rw [S_congr (g := fun _ => 0) fun x _ => by split; exact R_zero cs _; rfl, S_zero]
theorem R_add : ∀ (cs : List Nat) (a : Nat) (f g : List Nat → Nat), R cs a (fun z => f z + g z) = R cs a f + R cs a g
  | [], a, f, g => by
    simp only [R]
    split <;> rfl
  | c :: cs, a, f, g => by
    simp only [R]
    rw [← S_add]
    refine S_congr fun x _ => ?_
    split
    · exact R_add cs _ _ _
    · rfl
theorem R_sum (cs : List Nat) (a : Nat) (f : Nat → List Nat → Nat) : ∀ n, R cs a (fun z => S n fun i => f i z) = S n fun i => R cs a (f i)
  | 0 => R_zero cs a
  | n + 1 => by
    simp only [S]
    rw [R_add, R_sum cs a f n]
theorem R_if (cs : List Nat) (a : Nat) (p : Prop) [Decidable p] (f : List Nat → Nat) : R cs a (fun z => if p then f z else 0) = if p then R cs a f else 0 := by
  split
  · rfl
  · exact R_zero cs a
theorem R_swap : ∀ (ls : List Nat) (b : Nat) (cs : List Nat) (a : Nat) (g : List Nat → List Nat → Nat), R cs a (fun z => R ls b (fun y => g z y)) = R ls b (fun y => R cs a fun z => g z y)
  | [], b, cs, a, g => by
    simp only [R]
    exact R_if cs a _ _
  | l :: ls, b, cs, a, g => by
    simp only [R]
    rw [R_sum]
    refine S_congr fun x _ => ?_
    rw [R_if]
    split
    · exact R_swap ls _ cs a _
    · rfl
/-- the number of tables -/
def cnt : List Nat → List Nat → Nat
  | [], cs => if cs.sum = 0 then 1 else 0
  | a :: ls, cs => R cs a (cnt ls)
theorem S_flip (f : Nat → Nat) (a c : Nat) : S (c + 1) (fun x => if x ≤ a then f x else 0) = S (a + 1) (fun x => if x ≤ c then f x else 0) := by
  rcases Nat.le_total a c with h | h
  · rw [S_cut (n := a + 1) (m := c + 1) (by omega) fun i h1 _ => if_neg (by omega)]
    refine S_congr fun i hi => ?_
    rw [if_pos (by omega), if_pos (by omega)]
  · rw [S_cut (f := fun x => if x ≤ c then f x else 0) (n := c + 1) (m := a + 1) (by omega) fun i h1 _ => if_neg (by omega)]
    refine S_congr fun i hi => ?_
    rw [if_pos (by omega), if_pos (by omega)]
/-- by the first column -/
theorem cnt_col : ∀ (ls : List Nat) (c : Nat) (cs : List Nat), cnt ls (c :: cs) = R ls c (fun l => cnt l cs)
  | [], c, cs => by
    have e : (c :: cs).sum = c + cs.sum := List.sum_cons
    by_cases h : c = 0
    · simp [cnt, R, h]
    · simp only [cnt, R]
      rw [if_neg h, if_neg (by rw [e]; omega)]
  | a :: ls, c, cs => by
    simp only [cnt, R]
    rw [S_flip]
    refine S_congr fun x hx => ?_
    split
    · have e : (fun z => cnt ls ((c - x) :: z)) = fun z => R ls (c - x) (fun l => cnt l z) := funext fun z => cnt_col ls (c - x) z
      rw [e, R_swap]
    · rfl
theorem sum0 : ∀ {l : List Nat}, l.sum = 0 → ∀ x ∈ l, x = 0
  | y :: l, h, x, hx => by
    simp only [List.sum_cons] at h
    rcases List.mem_cons.mp hx with rfl | hx
    · omega
    · exact sum0 (by omega) x hx
theorem cnt_nil : ∀ ls : List Nat, cnt ls [] = if ls.sum = 0 then 1 else 0
  | [] => rfl
  | a :: ls => by
    have e : (a :: ls).sum = a + ls.sum := List.sum_cons
    by_cases h : a = 0
    · simp [cnt, R, h, cnt_nil ls]
    · simp only [cnt, R]
      rw [if_neg h, if_neg (by rw [e]; omega)]
theorem cnt_tr : ∀ (cs ls : List Nat), cnt ls cs = cnt cs ls
  | [], ls => by rw [cnt_nil]; rfl
  | c :: cs, ls => by
    rw [cnt_col]
    simp only [cnt]
    exact R_congr fun z _ _ => cnt_tr cs z
/-- the order of the columns does not matter -/
def Sym (f : List Nat → Nat) : Prop := ∀ x y : List Nat, x.Perm y → f x = f y
theorem R_two (c d a : Nat) (g : Nat → Nat → Nat → Nat) : S (c + 1) (fun x => if x ≤ a then S (d + 1) (fun y => if y ≤ a - x then g x y (a - x - y) else 0) else 0) = S (d + 1) (fun y => if y ≤ a then S (c + 1) (fun x => if x ≤ a - y then g x y (a - y - x) else 0) else 0) := by
  have e1 : ∀ x, x < c + 1 → (if x ≤ a then S (d + 1) (fun y => if y ≤ a - x then g x y (a - x - y) else 0) else 0) = S (d + 1) (fun y => if x + y ≤ a then g x y (a - x - y) else 0) := fun x _ => by
    split
    · refine S_congr fun y _ => ?_
      by_cases h : y ≤ a - x
      · rw [if_pos h, if_pos (by omega)]
      · rw [if_neg h, if_neg (by omega)]
    · rw [S_congr (g := fun _ => 0) fun y _ => if_neg (by omega), S_zero]
  have e2 : ∀ y, y < d + 1 → (if y ≤ a then S (c + 1) (fun x => if x ≤ a - y then g x y (a - y - x) else 0) else 0) = S (c + 1) (fun x => if x + y ≤ a then g x y (a - x - y) else 0) := fun y _ => by
    split
    · refine S_congr fun x _ => ?_
      by_cases h : x ≤ a - y
      · rw [if_pos h, if_pos (by omega), show a - y - x = a - x - y by omega]
      · rw [if_neg h, if_neg (by omega)]
    · rw [S_congr (g := fun _ => 0) fun x _ => if_neg (by omega), S_zero]
  rw [S_congr e1, S_congr e2]
  exact S_swap _ _ _
theorem R_perm {cs ds : List Nat} (h : cs.Perm ds) : ∀ (a : Nat) {f : List Nat → Nat}, Sym f → R cs a f = R ds a f := by
  induction h with
  | nil => intro a f _; rfl
  | cons x _ ih =>
    intro a f hf
    simp only [R]
    refine S_congr fun i _ => ?_
    split
    · exact ih _ fun p q pq => hf _ _ (pq.cons _)
    · rfl
  | swap x y l =>
    intro a f hf
    simp only [R]
    have := R_two y x a fun u v b => R l b (fun z => f ((y - u) :: (x - v) :: z))
    rw [this]
    refine S_congr fun i _ => ?_
    split
    · refine S_congr fun j _ => ?_
      split
      · exact R_congr fun z _ _ => hf _ _ (List.Perm.swap ..)
      · rfl
    · rfl
  | trans _ _ ih1 ih2 => intro a f hf; rw [ih1 a hf, ih2 a hf]
theorem sum_perm' {a b : List Nat} (h : a.Perm b) : a.sum = b.sum := h.sum_nat
theorem cnt_sym : ∀ ls : List Nat, Sym (cnt ls)
  | [], x, y, h => by simp only [cnt, sum_perm' h]
  | a :: ls, x, y, h => R_perm h a (cnt_sym ls)
theorem cnt_perm {ls ms : List Nat} (h : ls.Perm ms) (cs : List Nat) : cnt ls cs = cnt ms cs := by
  rw [cnt_tr cs ls, cnt_tr cs ms]
  exact cnt_sym cs _ _ h
theorem R_none : ∀ (cs : List Nat) (f : List Nat → Nat), R cs 0 f = f cs
  | [], f => rfl
  | c :: cs, f => by
    simp only [R]
    rw [S_cut (n := 1) (by omega) fun i h1 _ => if_neg (by omega)]
    simp only [S, Nat.zero_add]
    rw [if_pos (Nat.le_refl 0), Nat.sub_zero, R_none cs, Nat.sub_zero]
theorem cnt_zero (ls cs : List Nat) : cnt (0 :: ls) cs = cnt ls cs := R_none cs _
theorem cnt_insert (l1 l2 cs : List Nat) : cnt (l1 ++ 0 :: l2) cs = cnt (l1 ++ l2) cs := by
  rw [cnt_perm (List.perm_middle) cs, cnt_zero]
/-! two rows -/
def N (cs : List Nat) (a : Nat) : Nat := R cs a fun _ => 1
theorem R_all : ∀ (cs : List Nat) (f : List Nat → Nat), R cs cs.sum f = f (cs.map fun _ => 0)
  | [], f => by simp [R]
  | c :: cs, f => by
    rw [show (c :: cs).sum = c + cs.sum from List.sum_cons]
    show S (c + 1) (fun x => if x ≤ c + cs.sum then R cs (c + cs.sum - x) (fun z => f ((c - x) :: z)) else 0) = f (0 :: cs.map fun _ => 0)
    have z : S c (fun x => if x ≤ c + cs.sum then R cs (c + cs.sum - x) (fun z => f ((c - x) :: z)) else 0) = 0 := by
      rw [S_congr (g := fun _ => 0) fun x hx => ?_, S_zero]
      rw [if_pos (by omega)]
      rw [R_congr (g := fun _ => 0) fun z _ hs => by omega, R_zero]
    show S c (fun x => if x ≤ c + cs.sum then R cs (c + cs.sum - x) (fun z => f ((c - x) :: z)) else 0) + (if c ≤ c + cs.sum then R cs (c + cs.sum - c) (fun z => f ((c - c) :: z)) else 0) = _
    rw [z, if_pos (by omega), show c + cs.sum - c = cs.sum by omega, R_all cs, Nat.sub_self, Nat.zero_add]
theorem cnt_one (a : Nat) (cs : List Nat) (h : cs.sum = a) : cnt [a] cs = 1 := by
  simp only [cnt]
  rw [← h, R_all]
  have : ∀ cs : List Nat, (cs.map fun _ => 0).sum = 0 := fun cs => by
    induction cs with
    | nil => rfl
    | cons c cs ih => simp [ih]
  rw [if_pos (this cs)]
theorem cnt_two {a b : Nat} {cs : List Nat} (h : a + b = cs.sum) : cnt [a, b] cs = N cs a := by
  show R cs a (cnt [b]) = R cs a fun _ => 1
  exact R_congr fun z _ hz => cnt_one b z (by omega)
theorem cnt_three {a b c : Nat} {cs : List Nat} (h : a + b + c = cs.sum) : cnt [a, b, c] cs = R cs a fun z => N z b := by
  show R cs a (cnt [b, c]) = _
  exact R_congr fun z _ hz => cnt_two (by omega)
theorem N_perm {cs ds : List Nat} (h : cs.Perm ds) (a : Nat) : N cs a = N ds a := R_perm h a fun _ _ _ => rfl
theorem N_cons (c : Nat) (cs : List Nat) (a : Nat) : N (c :: cs) a = S (c + 1) fun x => if x ≤ a then N cs (a - x) else 0 := rfl
/-! binomials -/
def bin : Nat → Nat → Nat
  | _, 0 => 1
  | 0, _ + 1 => 0
  | n + 1, k + 1 => bin n k + bin n (k + 1)
theorem bin_zero (n : Nat) : bin n 0 = 1 := by cases n <;> rfl
theorem bin_big : ∀ {n k : Nat}, n < k → bin n k = 0
  | 0, k + 1, _ => rfl
  | n + 1, k + 1, h => by
    show bin n k + bin n (k + 1) = 0
    rw [bin_big (by omega), bin_big (by omega)]
theorem bin_step : ∀ (n k : Nat), bin n (k + 1) * (k + 1) = bin n k * (n - k)
  | 0, k => by
    cases k with
    | zero => rfl
    | succ k => simp [bin]
  | n + 1, 0 => by
    show (bin n 0 + bin n 1) * 1 = bin (n + 1) 0 * (n + 1)
    have h : bin n 1 = n := by
      have := bin_step n 0
      rw [bin_zero] at this
      simpa using this
    rw [bin_zero, bin_zero, h]
    omega
  | n + 1, k + 1 => by
    show (bin n (k + 1) + bin n (k + 2)) * (k + 2) = (bin n k + bin n (k + 1)) * (n + 1 - (k + 1))
    have h1 := bin_step n k
    have h2 : bin n (k + 2) * (k + 2) = bin n (k + 1) * (n - (k + 1)) := bin_step n (k + 1)
    rcases Nat.lt_or_ge n (k + 1) with g | g
    · have e1 : bin n (k + 1) = 0 := bin_big g
      have e2 : bin n (k + 2) = 0 := bin_big (by omega)
      rw [e1, e2, show n + 1 - (k + 1) = 0 by omega]
      simp
    · obtain ⟨d, hd⟩ : ∃ d, d = n - (k + 1) := ⟨_, rfl⟩
      rw [show n - k = d + 1 by omega] at h1
      rw [← hd] at h2
      rw [show n + 1 - (k + 1) = d + 1 by omega]
      generalize bin n (k + 1) = A at *
      generalize bin n (k + 2) = B at *
      generalize bin n k = C at *
      rw [Nat.add_mul, Nat.add_mul, h2]
      have e1 : A * (k + 2) = A * (k + 1) + A := by rw [show k + 2 = k + 1 + 1 from rfl, Nat.mul_add A (k + 1) 1, Nat.mul_one]
      have e2 : A * (d + 1) = A * d + A := by rw [Nat.mul_add, Nat.mul_one]
      rw [e1, e2, h1]
      omega
/-- the number of n + 1 numbers with sum r -/
def G (n r : Nat) : Nat := bin (r + n) n
theorem G_sum (n : Nat) : ∀ r, S (r + 1) (fun x => G n (r - x)) = G (n + 1) r
  | 0 => by
    simp only [S, Nat.zero_add, Nat.sub_self, G]
    have h : ∀ n, bin n n = 1 := fun n => by
      induction n with
      | zero => rfl
      | succ n ih =>
        show bin n n + bin n (n + 1) = 1
        rw [ih, bin_big (by omega)]
    rw [h, h]
  | r + 1 => by
    have ih := G_sum n r
    have e : S (r + 1 + 1) (fun x => G n (r + 1 - x)) = G n (r + 1) + S (r + 1) (fun x => G n (r - x)) := by
      have sh : ∀ (f : Nat → Nat) (k : Nat), S (k + 1) f = f 0 + S k (fun x => f (x + 1)) := fun f k => by
        induction k with
        | zero => simp [S]
        | succ k ih =>
          show S (k + 1) f + f (k + 1) = _
          rw [ih]
          simp only [S]
          omega
      rw [sh]
      simp only [Nat.sub_zero]
      congr 1
      refine S_congr fun x _ => ?_
      rw [show r + 1 - (x + 1) = r - x by omega]
    rw [e, ih]
    unfold G
    rw [show r + 1 + (n + 1) = r + n + 1 + 1 by omega]
    show bin (r + 1 + n) n + bin (r + (n + 1)) (n + 1) = bin (r + n + 1) n + bin (r + n + 1) (n + 1)
    rw [show r + 1 + n = r + n + 1 by omega, show r + (n + 1) = r + n + 1 by omega]
end Lg
end
section
set_option maxRecDepth 100000
set_option maxHeartbeats 4000000
/-! two rows, by inclusion and exclusion -/
namespace Lg
def Ne (f : Int → Int) : Prop := ∀ r, r < 0 → f r = 0
def Cum (f : Int → Int) (r : Int) : Int := sg (r + 1).toNat fun y => f (y : Nat)
def Box (c : Nat) (f : Int → Int) (r : Int) : Int := sg (c + 1) fun x => f (r - (x : Nat))
theorem cum_neg (f : Int → Int) : Ne (Cum f) := fun r h => by
  unfold Cum
  rw [show (r + 1).toNat = 0 by omega]
  rfl
theorem cum_diff {f : Int → Int} (hf : Ne f) (r : Int) : Cum f r - Cum f (r - 1) = f r := by
  by_cases h : r < 0
  · rw [cum_neg f r h, cum_neg f (r - 1) (by omega), hf r h]
    rfl
  · unfold Cum
    rw [show (r + 1).toNat = r.toNat + 1 by omega, show (r - 1 + 1).toNat = r.toNat by omega]
    show sg r.toNat _ + f ((r.toNat : Nat) : Int) - _ = _
    rw [Int.toNat_of_nonneg (by omega)]
    omega
theorem box_neg {f : Int → Int} (hf : Ne f) (c : Nat) : Ne (Box c f) := fun r h => by
  unfold Box
  rw [sg_congr (g := fun _ => 0) fun i _ => hf _ (by omega), sg_zero]
theorem box_succ (f : Int → Int) (c : Nat) (r : Int) : Box (c + 1) f r = Box c f r + f (r - ((c + 1 : Nat) : Int)) := rfl
theorem box_zero (f : Int → Int) (r : Int) : Box 0 f r = f r := by
  unfold Box
  simp [sg]
theorem box_cum {f : Int → Int} (hf : Ne f) (r : Int) : ∀ c : Nat, Cum f r - Cum f (r - ((c : Int) + 1)) = Box c f r
  | 0 => by
    rw [box_zero]
    exact cum_diff hf r
  | c + 1 => by
    rw [box_succ, ← box_cum hf r c]
    have := cum_diff hf (r - ((c + 1 : Nat) : Int))
    push_cast at this ⊢
    rw [show r - ((c : Int) + 1 + 1) = r - ((c : Int) + 1) - 1 by omega]
    omega
theorem ext_diff {A B : Int → Int} (hA : Ne A) (hB : Ne B) (h : ∀ r, A r - A (r - 1) = B r - B (r - 1)) (r : Int) : A r = B r := by
  have key : ∀ n : Nat, A ((n : Int) - 1) = B ((n : Int) - 1) := fun n => by
    induction n with
    | zero => rw [hA _ (by omega), hB _ (by omega)]
    | succ n ih =>
      have := h (((n + 1 : Nat) : Int) - 1)
      rw [show ((n + 1 : Nat) : Int) - 1 - 1 = (n : Int) - 1 by omega] at this
      omega
  by_cases hr : r < 0
  · rw [hA r hr, hB r hr]
  · have := key (r.toNat + 1)
    rw [show ((r.toNat + 1 : Nat) : Int) - 1 = r by omega] at this
    exact this
theorem cum_shift {f : Int → Int} (hf : Ne f) (k : Nat) (r : Int) : Cum (fun y => f (y - (k : Nat))) r = Cum f (r - (k : Nat)) := by
  have hs : Ne fun y => f (y - (k : Nat)) := fun y h => hf _ (by omega)
  refine ext_diff (A := Cum fun y => f (y - (k : Nat))) (B := fun r => Cum f (r - (k : Nat))) (cum_neg _) (fun r h => cum_neg _ _ (by omega)) (fun r => ?_) r
  rw [cum_diff hs, show r - 1 - (k : Nat) = r - (k : Nat) - 1 by omega, cum_diff hf]
theorem cum_add (f g : Int → Int) (r : Int) : Cum (fun y => f y + g y) r = Cum f r + Cum g r := sg_add _ _ _
theorem cum_box {f : Int → Int} (hf : Ne f) : ∀ (c : Nat) (r : Int), Cum (Box c f) r = Box c (Cum f) r
  | 0, r => by
    rw [box_zero]
    have : Box 0 f = f := funext fun r => box_zero f r
    rw [this]
  | c + 1, r => by
    have e : Box (c + 1) f = fun y => Box c f y + f (y - ((c + 1 : Nat) : Int)) := funext fun y => box_succ f c y
    rw [e, cum_add, cum_shift hf, cum_box hf c, box_succ]
def Ex2 : List Nat → (Int → Int) → Int → Int
  | [], f, r => f r
  | c :: cs, f, r => Ex2 cs f r - Ex2 cs f (r - ((c : Int) + 1))
def Mx : List Nat → (Int → Int) → Int → Int
  | [], f => f
  | c :: cs, f => Box c (Mx cs f)
def cums : Nat → (Int → Int) → Int → Int
  | 0, f => f
  | n + 1, f => cums n (Cum f)
theorem mx_neg {f : Int → Int} (hf : Ne f) : ∀ cs, Ne (Mx cs f)
  | [] => hf
  | c :: cs => box_neg (mx_neg hf cs) c
theorem mx_cum {f : Int → Int} (hf : Ne f) : ∀ cs, Mx cs (Cum f) = Cum (Mx cs f)
  | [] => rfl
  | c :: cs => by
    show Box c (Mx cs (Cum f)) = Cum (Box c (Mx cs f))
    rw [mx_cum hf cs]
    exact funext fun r => (cum_box (mx_neg hf cs) c r).symm
theorem ex_mx : ∀ (cs : List Nat) {f : Int → Int}, Ne f → ∀ r, Ex2 cs (cums cs.length f) r = Mx cs f r
  | [], f, hf, r => rfl
  | c :: cs, f, hf, r => by
    show Ex2 cs (cums cs.length (Cum f)) r - Ex2 cs (cums cs.length (Cum f)) (r - ((c : Int) + 1)) = Box c (Mx cs f) r
    rw [ex_mx cs (cum_neg f), ex_mx cs (cum_neg f), mx_cum hf]
    exact box_cum (mx_neg hf cs) r c
def del0 (r : Int) : Int := if r = 0 then 1 else 0
theorem del_neg : Ne del0 := fun r h => if_neg (by omega)
theorem S_cast (f : Nat → Nat) : ∀ n, ((S n f : Nat) : Int) = sg n (fun i => (f i : Nat))
  | 0 => rfl
  | n + 1 => by
    simp only [S, sg, ← S_cast f n]
    push_cast
    rfl
theorem mx_N : ∀ (cs : List Nat) (a : Nat), Mx cs del0 (a : Nat) = ((N cs a : Nat) : Int)
  | [], a => by
    show (if (a : Int) = 0 then (1 : Int) else 0) = (((if a = 0 then 1 else 0) : Nat) : Int)
    by_cases h : a = 0
    · simp [h]
    · rw [if_neg (by omega), if_neg h]
      rfl
  | c :: cs, a => by
    rw [N_cons, S_cast]
    show sg (c + 1) (fun x => Mx cs del0 ((a : Int) - (x : Nat))) = _
    refine sg_congr fun x _ => ?_
    by_cases h : x ≤ a
    · rw [if_pos h, ← mx_N cs (a - x)]
      congr 1
      omega
    · rw [if_neg h, mx_neg del_neg cs _ (by omega)]
      rfl
theorem cum_G (n : Nat) : (Cum fun r => if 0 ≤ r then ((G n r.toNat : Nat) : Int) else 0) = fun r => if 0 ≤ r then ((G (n + 1) r.toNat : Nat) : Int) else 0 := funext fun r => by
  by_cases h : 0 ≤ r
  · rw [if_pos h]
    unfold Cum
    have e : (r + 1).toNat = r.toNat + 1 := by omega
    rw [e, ← G_sum, S_cast]
    -- the sum turned round
    have rev : ∀ (k : Nat) (g : Nat → Int), sg (k + 1) g = sg (k + 1) fun x => g (k - x) := by
      intro k
      induction k with
      | zero => intro g; simp [sg]
      | succ k ih =>
        intro g
        have sh : ∀ (f : Nat → Int) (m : Nat), sg (m + 1) f = f 0 + sg m (fun x => f (x + 1)) := fun f m => by
          induction m with
          | zero => simp [sg]
          | succ m ih =>
            show sg (m + 1) f + f (m + 1) = _
            rw [ih]
            simp only [sg]
            omega
        rw [sh (fun x => g (k + 1 - x)) (k + 1)]
        have e2 : sg (k + 1) (fun x => g (k + 1 - (x + 1))) = sg (k + 1) (fun x => g (k - x)) := sg_congr fun x _ => by rw [show k + 1 - (x + 1) = k - x by omega]
        rw [e2, ← ih g]
        show sg (k + 1) g + g (k + 1) = g (k + 1 - 0) + sg (k + 1) g
        rw [Nat.sub_zero]
        omega
    rw [rev]
    refine sg_congr fun x _ => ?_
    show ((G n (r.toNat - x) : Nat) : Int) = (if 0 ≤ ((r.toNat - x : Nat) : Int) then ((G n ((r.toNat - x : Nat) : Int).toNat : Nat) : Int) else (0:Int))
    rw [if_pos (by omega)]
    rfl
  · rw [if_neg h]
    exact cum_neg _ r (by omega)
theorem cums_del : ∀ n, cums (n + 1) del0 = fun r => if 0 ≤ r then ((G n r.toNat : Nat) : Int) else 0 := by
  have c0 : Cum del0 = fun r => if 0 ≤ r then ((G 0 r.toNat : Nat) : Int) else 0 := funext fun r => by
    by_cases h : 0 ≤ r
    · rw [if_pos h]
      have key : ∀ n : Nat, Cum del0 (n : Nat) = 1 := fun n => by
        induction n with
        | zero =>
          have := cum_diff del_neg 0
          have z := cum_neg del0 (0 - 1) (by decide)
          have w : del0 0 = 1 := rfl
          rw [z, w] at this
          show Cum del0 0 = 1
          omega
        | succ n ih =>
          have := cum_diff del_neg ((n + 1 : Nat) : Int)
          rw [show ((n + 1 : Nat) : Int) - 1 = (n : Nat) by omega, ih] at this
          have z : del0 ((n + 1 : Nat) : Int) = 0 := if_neg (by omega)
          rw [z] at this
          omega
      have := key r.toNat
      rw [Int.toNat_of_nonneg h] at this
      rw [this]
      show (1 : Int) = ((bin (r.toNat + 0) 0 : Nat) : Int)
      rw [bin_zero]
      rfl
    · rw [if_neg h]
      exact cum_neg _ r (by omega)
  have step : ∀ (n : Nat) (k : Nat), cums n (fun r => if 0 ≤ r then ((G k r.toNat : Nat) : Int) else 0) = fun r => if 0 ≤ r then ((G (k + n) r.toNat : Nat) : Int) else 0 := by
    intro n
    induction n with
    | zero => intro k; rfl
    | succ n ih =>
      intro k
      show cums n (Cum _) = _
      rw [cum_G, ih (k + 1), show k + 1 + n = k + (n + 1) by omega]
  intro n
  show cums n (Cum del0) = _
  rw [c0, step n 0, Nat.zero_add]
/-- what the law sums -/
def shc : List Nat → Nat → Int
  | [], _ => 0
  | c :: cs, code => (if code % 2 = 1 then (c : Int) + 1 else 0) + shc cs (code / 2)
def sgc : List Nat → Nat → Int
  | [], _ => 1
  | _ :: cs, code => if code % 2 = 1 then -sgc cs (code / 2) else sgc cs (code / 2)
theorem sg_pair (h : Nat → Int) : ∀ n, sg (2 * n) h = sg n fun q => h (2 * q) + h (2 * q + 1)
  | 0 => rfl
  | n + 1 => by
    rw [show 2 * (n + 1) = 2 * n + 1 + 1 by omega]
    simp only [sg]
    rw [sg_pair h n]
    omega
theorem code_sum (f : Int → Int) : ∀ (cs : List Nat) (r : Int), sg (2 ^ cs.length) (fun code => sgc cs code * f (r - shc cs code)) = Ex2 cs f r
  | [], r => by simp [sg, sgc, shc, Ex2]
  | c :: cs, r => by
    rw [List.length_cons, Nat.pow_succ, Nat.mul_comm, sg_pair]
    show _ = Ex2 cs f r - Ex2 cs f (r - ((c : Int) + 1))
    rw [← code_sum f cs r, ← code_sum f cs (r - ((c : Int) + 1))]
    have e : ∀ A B : Int, A - B = A + -1 * B := fun A B => by omega
    rw [e, ← sg_mul, ← sg_add]
    refine sg_congr fun q _ => ?_
    have a1 : (2 * q) % 2 = 0 := by omega
    have a2 : (2 * q) / 2 = q := by omega
    have a3 : (2 * q + 1) % 2 = 1 := by omega
    have a4 : (2 * q + 1) / 2 = q := by omega
    simp only [sgc, shc, a1, a2, a3, a4, if_true]
    rw [if_neg (by omega), if_neg (by omega), Int.zero_add, show r - ((c : Int) + 1 + shc cs q) = r - ((c : Int) + 1) - shc cs q by omega]
    rw [Int.neg_mul, Int.neg_mul, Int.one_mul]
/-- two rows, by the law's sum -/
theorem law_two (cs : List Nat) (n a : Nat) (hn : cs.length = n + 1) : sg (2 ^ cs.length) (fun code => sgc cs code * (if 0 ≤ (a : Int) - shc cs code then ((bin (((a : Int) - shc cs code).toNat + n) n : Nat) : Int) else 0)) = ((N cs a : Nat) : Int) := by
  have h := code_sum (cums cs.length del0) cs (a : Nat)
  rw [ex_mx cs del_neg, mx_N, hn, cums_del] at h
  rw [hn]
  exact h
end Lg
end
section
set_option maxRecDepth 100000
set_option maxHeartbeats 4000000
/-! what is left, as lists; numbers by key -/
namespace Lg
open Ev
/-! #### numbers by key -/
def iN (l : List Nat) : List Int := l.map fun m => ((m : Nat) : Int)
theorem iN_inj : ∀ {k l : List Nat}, iN k = iN l → k = l
  | [], [], _ => rfl
  | [], _ :: _, h => by cases h
  | _ :: _, [], h => by cases h
  | x :: k, y :: l, h => by
    unfold iN at h
    rw [List.map_cons, List.map_cons] at h
    injection h with h1 h2
    rw [iN_inj (k := k) (l := l) h2, Int.ofNat_inj.mp h1]
abbrev KN := List (List Nat × Nat)
def kD (kvs : KN) : List (List Int × D) := kvs.map fun q => (iN q.1, .int (q.2 : Nat))
def gN (k : List Nat) : KN → Option Nat
  | [] => none
  | (j, x) :: r => if j = k then some x else gN k r
def pN (k : List Nat) (x : Nat) (kvs : KN) : KN := if kvs.any (fun q => decide (q.1 = k)) then kvs.map (fun q => if q.1 = k then (q.1, x) else q) else kvs ++ [(k, x)]
theorem iN_dec (j k : List Nat) : decide (iN j = iN k) = decide (j = k) := by
  by_cases h : j = k
  · rw [h]; simp
  · rw [decide_eq_false h, decide_eq_false fun z => h (iN_inj z)]
theorem gN_D (k : List Nat) : ∀ kvs : KN, getK (iN k) (kD kvs) = (gN k kvs).map fun v => D.int (v : Nat)
  | [] => rfl
  | (j, x) :: r => by
    show (if iN j = iN k then some (D.int (x : Nat)) else getK (iN k) (kD r)) = _
    by_cases h : j = k
    · subst h
      simp [gN]
    · rw [if_neg fun z => h (iN_inj z), gN_D k r]
      simp [gN, h]
theorem pN_D (k : List Nat) (x : Nat) (kvs : KN) : putD (iN k) (.int (x : Nat)) (kD kvs) = kD (pN k x kvs) := by
  have a : ((kD kvs).any fun q => decide (q.1 = iN k)) = kvs.any fun q => decide (q.1 = k) := by
    unfold kD
    rw [List.any_map]
    congr 1
    funext q
    exact iN_dec q.1 k
  unfold putD pN
  rw [a]
  split
  · unfold kD
    rw [List.map_map, List.map_map]
    refine List.map_congr_left fun q _ => ?_
    show (if iN q.1 = iN k then _ else _) = ((iN (if q.1 = k then (q.1, x) else q).1, D.int ((if q.1 = k then (q.1, x) else q).2 : Nat)) : List Int × D)
    by_cases h : q.1 = k
    · rw [if_pos (by rw [h]), if_pos h]
    · rw [if_neg fun z => h (iN_inj z), if_neg h]
  · unfold kD
    rw [List.map_append]
    rfl
def bump (k : List Nat) (m : Nat) (kvs : KN) : KN := pN k ((gN k kvs).getD 0 + m) kvs
def W (f : List Nat → Nat) : KN → Nat
  | [] => 0
  | (k, v) :: r => v * f k + W f r
def ND (kvs : KN) : Prop := (kvs.map (·.1)).Nodup
section
variable {f : List Nat → Nat} {k : List Nat}
theorem W_app (f : List Nat → Nat) : ∀ a b : KN, W f (a ++ b) = W f a + W f b
  | [], b => by simp [W]
  | (k, v) :: a, b => by
    simp only [List.cons_append, W, W_app f a b]
    omega
theorem gN_none : ∀ {kvs : KN}, kvs.any (fun q => decide (q.1 = k)) = false ↔ gN k kvs = none
  | [] => by simp [gN]
  | (j, x) :: r => by
    have ih := gN_none (kvs := r)
    rw [List.any_cons]
    by_cases h : j = k
    · simp [gN, h]
    · simp only [gN, if_neg h, ← ih, decide_eq_false h, Bool.false_or]
theorem repl_id {x : Nat} : ∀ {kvs : KN}, k ∉ kvs.map (·.1) → kvs.map (fun q => if q.1 = k then (q.1, x) else q) = kvs
  | [], _ => rfl
  | (j, y) :: r, h => by
    simp only [List.map_cons, List.mem_cons, not_or] at h
    rw [List.map_cons, repl_id h.2, if_neg fun z => h.1 z.symm]
theorem W_repl {x v : Nat} : ∀ {kvs : KN}, ND kvs → gN k kvs = some v → W f (kvs.map fun q => if q.1 = k then (q.1, x) else q) + v * f k = W f kvs + x * f k
  | [], _, h => by simp [gN] at h
  | (j, y) :: r, nd, h => by
    unfold ND at nd
    rw [List.map_cons, List.nodup_cons] at nd
    by_cases e : j = k
    · subst e
      simp only [gN, if_true] at h
      cases h
      rw [List.map_cons, repl_id nd.1, if_pos rfl]
      simp only [W]
      omega
    · simp only [gN, if_neg e] at h
      have ih := W_repl (x := x) (v := v) (kvs := r) nd.2 h
      rw [List.map_cons, if_neg e]
      simp only [W]
      omega
theorem W_bump {m : Nat} {kvs : KN} (nd : ND kvs) : W f (bump k m kvs) = W f kvs + m * f k := by
  unfold bump pN
  cases hg : gN k kvs with
  | none =>
    rw [gN_none.mpr hg, if_neg (by simp), W_app]
    simp [W]
  | some v =>
    have ha : kvs.any (fun q => decide (q.1 = k)) = true := by
      cases e : kvs.any (fun q => decide (q.1 = k)) with
      | true => rfl
      | false => rw [gN_none.mp e] at hg; cases hg
    rw [ha, if_pos rfl]
    have := W_repl (f := f) (x := (some v).getD 0 + m) nd hg
    have e : ((some v).getD 0 + m) * f k = v * f k + m * f k := Nat.add_mul ..
    rw [e] at this
    omega
theorem keys_bump {m : Nat} {kvs : KN} : (bump k m kvs).map (·.1) = if kvs.any (fun q => decide (q.1 = k)) then kvs.map (·.1) else kvs.map (·.1) ++ [k] := by
  unfold bump pN
  split
  · rw [List.map_map]
    refine List.map_congr_left fun q _ => ?_
    show (if q.1 = k then (q.1, _) else q).1 = q.1
    split <;> rfl
  · rw [List.map_append]
    rfl
theorem ND_bump {m : Nat} {kvs : KN} (nd : ND kvs) : ND (bump k m kvs) := by
  unfold ND
  rw [keys_bump]
  split
  · exact nd
  · rename_i h
    rw [List.nodup_append]
    refine ⟨nd, by simp, fun a ha b hb e => h ?_⟩
    rw [List.mem_singleton] at hb
    subst hb e
    obtain ⟨q, hq, e⟩ := List.mem_map.mp ha
    exact List.any_eq_true.mpr ⟨q, hq, by simp [e]⟩
theorem P_bump {P : List Nat → Prop} {m : Nat} {kvs : KN} (h : ∀ x ∈ kvs.map (·.1), P x) (hk : P k) : ∀ x ∈ (bump k m kvs).map (·.1), P x := by
  rw [keys_bump]
  split
  · exact h
  · intro x hx
    rcases List.mem_append.mp hx with hx | hx
    · exact h x hx
    · rw [List.mem_singleton.mp hx]; exact hk
theorem W_congr {f g : List Nat → Nat} : ∀ {kvs : KN}, (∀ x ∈ kvs.map (·.1), f x = g x) → W f kvs = W g kvs
  | [], _ => rfl
  | (j, y) :: r, h => by
    simp only [W]
    rw [h j (by simp), W_congr fun x hx => h x (by simp only [List.map_cons]; exact List.mem_cons_of_mem _ hx)]
end
theorem W_one {k : List Nat} : ∀ {kvs : KN}, ND kvs → W (fun x => if x = k then 1 else 0) kvs = (gN k kvs).getD 0
  | [], _ => rfl
  | (j, y) :: r, nd => by
    unfold ND at nd
    rw [List.map_cons, List.nodup_cons] at nd
    simp only [W, gN]
    by_cases h : j = k
    · subst h
      have z : W (fun x => if x = j then 1 else 0) r = W (fun _ => 0) r := W_congr fun x hx => if_neg fun e => nd.1 (by rw [← e]; exact hx)
      have z2 : ∀ l : KN, W (fun _ => 0) l = 0 := fun l => by
        induction l with
        | nil => rfl
        | cons a l ih => obtain ⟨a, b⟩ := a; simp [W, ih]
      rw [z, z2]
      simp
    · rw [if_neg h, if_neg h, W_one nd.2]
      omega
/-! #### sorted -/
def insN (x : Nat) : List Nat → List Nat
  | [] => [x]
  | y :: r => if x ≤ y then x :: y :: r else y :: insN x r
def srt : List Nat → List Nat
  | [] => []
  | x :: r => insN x (srt r)
theorem insN_D (x : Nat) : ∀ l : List Nat, insI (x : Nat) (iN l) = iN (insN x l)
  | [] => rfl
  | y :: r => by
    show (if (x : Int) ≤ (y : Nat) then (x : Int) :: ((y : Nat) : Int) :: iN r else ((y : Nat) : Int) :: insI (x : Nat) (iN r)) = iN (if x ≤ y then x :: y :: r else y :: insN x r)
    by_cases h : x ≤ y
    · rw [if_pos (by omega), if_pos h]; rfl
    · rw [if_neg (by omega), if_neg h, insN_D x r]; rfl
theorem srt_D : ∀ l : List Nat, sortI (iN l) = iN (srt l)
  | [] => rfl
  | x :: r => by
    show insI (x : Nat) (sortI (iN r)) = iN (insN x (srt r))
    rw [srt_D r, insN_D]
theorem insN_perm (x : Nat) : ∀ l : List Nat, (insN x l).Perm (x :: l)
  | [] => List.Perm.refl _
  | y :: r => by
    show (if x ≤ y then x :: y :: r else y :: insN x r).Perm _
    split
    · exact List.Perm.refl _
    · exact ((insN_perm x r).cons y).trans (List.Perm.swap x y r)
theorem srt_perm : ∀ l : List Nat, (srt l).Perm l
  | [] => List.Perm.refl _
  | x :: r => (insN_perm x (srt r)).trans ((srt_perm r).cons x)
/-! #### rests -/
theorem R_big : ∀ {cs : List Nat} {a : Nat} {f : List Nat → Nat}, cs.sum < a → R cs a f = 0
  | [], a, f, h => if_neg (by have : 0 < a := h; omega)
  | c :: cs, a, f, h => by
    have e : (c :: cs).sum = c + cs.sum := List.sum_cons
    simp only [R]
    rw [S_congr (g := fun _ => 0) fun x hx => ?_, S_zero]
    split
    · exact R_big (by omega)
    · rfl
theorem S_lo {F : Nat → Nat} : ∀ {n lo : Nat}, (∀ x, x < lo → F x = 0) → S n F = S (n - lo) fun i => F (lo + i)
  | 0, lo, h => by rw [Nat.zero_sub]; rfl
  | n + 1, lo, h => by
    by_cases hl : lo ≤ n
    · rw [show n + 1 - lo = (n - lo) + 1 by omega]
      simp only [S]
      rw [S_lo h, show lo + (n - lo) = n by omega]
    · rw [show n + 1 - lo = 0 by omega]
      rw [S_congr (g := fun _ => 0) fun x hx => h x (by omega), S_zero]
      rfl
theorem S_list (g : Nat → Nat) : ∀ n, ((List.range n).map g).sum = S n g
  | 0 => rfl
  | n + 1 => by
    rw [List.range_succ, List.map_append, List.sum_append, S_list g n]
    simp [S]
def extS (c rm : Nat) (p : List Nat × Nat) : KN := (List.range (min c p.2 + 1 - (p.2 - rm))).map fun i => (p.1 ++ [c - (p.2 - rm + i)], p.2 - (p.2 - rm + i))
def ext (c rm : Nat) (l : KN) : KN := l.flatMap (extS c rm)
def begun : List Nat → KN → KN
  | [], l => l
  | c :: cs, l => begun cs (ext c cs.sum l)
def taken (cs : List Nat) (a : Nat) : List (List Nat) := ((begun cs [([], a)]).filter fun p => p.2 == 0).map (·.1)
def Vs (f : List Nat → Nat) (cs : List Nat) (l : KN) : Nat := (l.map fun p => R cs p.2 fun z => f (p.1 ++ z)).sum
theorem R_ext (c : Nat) (cs : List Nat) (p : List Nat × Nat) (f : List Nat → Nat) : R (c :: cs) p.2 (fun z => f (p.1 ++ z)) = Vs f cs (extS c cs.sum p) := by
  obtain ⟨r, s⟩ := p
  simp only [R, Vs, extS]
  rw [List.map_map, S_list]
  rw [S_cut (n := min c s + 1) (m := c + 1) (by omega) fun i h1 h2 => if_neg (by omega)]
  rw [S_lo (lo := s - cs.sum) fun x hx => by
    rw [if_pos (by omega)]
    exact R_big (by omega)]
  refine S_congr fun i hi => ?_
  rw [if_pos (by omega)]
  show _ = R cs (s - (s - cs.sum + i)) fun z => f ((r ++ [c - (s - cs.sum + i)]) ++ z)
  refine R_congr fun z _ _ => ?_
  rw [List.append_assoc]
  rfl
theorem Vs_ext (f : List Nat → Nat) (c : Nat) (cs : List Nat) : ∀ l : KN, Vs f (c :: cs) l = Vs f cs (ext c cs.sum l)
  | [] => rfl
  | p :: l => by
    have h := Vs_ext f c cs l
    unfold Vs ext at h ⊢
    rw [List.map_cons, List.sum_cons, List.flatMap_cons, List.map_append, List.sum_append, ← h, R_ext c cs p f]
    rfl
theorem Vs_begun (f : List Nat → Nat) : ∀ (cs : List Nat) (l : KN), Vs f cs l = Vs f [] (begun cs l)
  | [], l => rfl
  | c :: cs, l => by rw [Vs_ext, Vs_begun f cs]; rfl
theorem Vs_nil (f : List Nat → Nat) : ∀ l : KN, Vs f [] l = (((l.filter fun p => p.2 == 0).map (·.1)).map f).sum
  | [] => rfl
  | (r, s) :: l => by
    have h := Vs_nil f l
    unfold Vs at h ⊢
    rw [List.map_cons, List.sum_cons, h]
    by_cases e : s = 0
    · subst e
      simp [R]
    · simp [R, e]
theorem taken_sum (cs : List Nat) (a : Nat) (f : List Nat → Nat) : ((taken cs a).map f).sum = R cs a f := by
  have h := Vs_begun f cs [([], a)]
  rw [Vs_nil] at h
  unfold taken
  rw [← h]
  simp [Vs]
theorem ext_len {c rm : Nat} (hc : c ≤ 12) : ∀ l : KN, (ext c rm l).length ≤ 13 * l.length
  | [] => by simp [ext]
  | p :: l => by
    have h := ext_len (rm := rm) hc l
    unfold ext at h ⊢
    rw [List.flatMap_cons, List.length_append, List.length_cons]
    have : (extS c rm p).length ≤ 13 := by
      unfold extS
      rw [List.length_map, List.length_range]
      omega
    omega
theorem ext_mem {c rm n : Nat} (hc : c ≤ 12) {l : KN} (h : ∀ p ∈ l, p.1.length = n ∧ ∀ x ∈ p.1, x ≤ 12) : ∀ p ∈ ext c rm l, p.1.length = n + 1 ∧ ∀ x ∈ p.1, x ≤ 12 := by
  intro p hp
  unfold ext at hp
  obtain ⟨q, hq, hp⟩ := List.mem_flatMap.mp hp
  unfold extS at hp
  obtain ⟨i, _, rfl⟩ := List.mem_map.mp hp
  obtain ⟨h1, h2⟩ := h q hq
  refine ⟨by simp [h1], fun x hx => ?_⟩
  rcases List.mem_append.mp hx with hx | hx
  · exact h2 x hx
  · rw [List.mem_singleton.mp hx]; omega
theorem begun_mem : ∀ {cs : List Nat} {l : KN} {n : Nat}, (∀ c ∈ cs, c ≤ 12) → (∀ p ∈ l, p.1.length = n ∧ ∀ x ∈ p.1, x ≤ 12) → ∀ p ∈ begun cs l, p.1.length = n + cs.length ∧ ∀ x ∈ p.1, x ≤ 12
  | [], l, n, _, h => h
  | c :: cs, l, n, hc, h => by
    have := begun_mem (cs := cs) (n := n + 1) (fun x hx => hc x (List.mem_cons_of_mem _ hx)) (ext_mem (rm := cs.sum) (hc c List.mem_cons_self) h)
    intro p hp
    obtain ⟨a, b⟩ := this p hp
    exact ⟨by rw [a, List.length_cons]; omega, b⟩
theorem taken_mem {cs : List Nat} {a : Nat} (hc : ∀ c ∈ cs, c ≤ 12) : ∀ z ∈ taken cs a, z.length = cs.length ∧ ∀ x ∈ z, x ≤ 12 := by
  intro z hz
  unfold taken at hz
  obtain ⟨p, hp, rfl⟩ := List.mem_map.mp hz
  have := begun_mem (n := 0) hc (l := [([], a)]) (fun p hp => by
    rw [List.mem_singleton.mp hp]
    exact ⟨rfl, fun x hx => by cases hx⟩) p (List.mem_filter.mp hp).1
  exact ⟨by rw [this.1]; omega, this.2⟩
/-! #### a row taken from every key -/
def bumps (m : Nat) (zs : List (List Nat)) (kvs : KN) : KN := zs.foldl (fun l z => bump (srt z) m l) kvs
def aft (a : Nat) (ways : KN) (kvs : KN) : KN := ways.foldl (fun l q => bumps q.2 (taken q.1 a) l) kvs
def Bx (w : Nat) (x : List Nat) : Prop := x.length = w ∧ ∀ y ∈ x, y ≤ 12
structure KOk (w : Nat) (kvs : KN) : Prop where
  nd : ND kvs
  bx : ∀ x ∈ kvs.map (·.1), Bx w x
theorem Bx.srt {w : Nat} {x : List Nat} (h : Bx w x) : Bx w (Lg.srt x) := ⟨by rw [(srt_perm x).length_eq]; exact h.1, fun y hy => h.2 y ((srt_perm x).mem_iff.mp hy)⟩
theorem bumps_ok {w m : Nat} {f : List Nat → Nat} (hf : Sym f) : ∀ {zs : List (List Nat)} {kvs : KN}, KOk w kvs → (∀ z ∈ zs, Bx w z) → KOk w (bumps m zs kvs) ∧ W f (bumps m zs kvs) = W f kvs + m * (zs.map f).sum
  | [], kvs, h, _ => ⟨h, by simp [bumps]⟩
  | z :: zs, kvs, h, hz => by
    have h1 : KOk w (bump (srt z) m kvs) := ⟨ND_bump h.nd, P_bump h.bx (hz z List.mem_cons_self).srt⟩
    obtain ⟨a, b⟩ := bumps_ok (m := m) hf h1 fun x hx => hz x (List.mem_cons_of_mem _ hx)
    refine ⟨a, ?_⟩
    show W f (bumps m zs (bump (srt z) m kvs)) = _
    rw [b, W_bump h.nd, List.map_cons, List.sum_cons, hf _ _ (srt_perm z), Nat.mul_add]
    omega
theorem aft_ok {w a : Nat} {f : List Nat → Nat} (hf : Sym f) : ∀ {ways kvs : KN}, KOk w kvs → (∀ x ∈ ways.map (·.1), Bx w x) → KOk w (aft a ways kvs) ∧ W f (aft a ways kvs) = W f kvs + W (fun k => R k a f) ways
  | [], kvs, h, _ => ⟨h, by simp [aft, W]⟩
  | (k, v) :: ways, kvs, h, hw => by
    have hk : Bx w k := hw k (by simp)
    obtain ⟨h1, e1⟩ := bumps_ok (m := v) (zs := taken k a) hf h fun z hz => by
      obtain ⟨a1, a2⟩ := taken_mem hk.2 z hz
      exact ⟨by rw [a1]; exact hk.1, a2⟩
    obtain ⟨a2, b2⟩ := aft_ok (a := a) (ways := ways) hf h1 fun x hx => hw x (by simp only [List.map_cons]; exact List.mem_cons_of_mem _ hx)
    refine ⟨a2, ?_⟩
    show W f (aft a ways (bumps v (taken k a) kvs)) = _
    rw [b2, e1, taken_sum]
    simp only [W]
    omega
def rows : List Nat → KN → KN
  | [], ways => ways
  | a :: ls, ways => rows ls (aft a ways [])
theorem KOk.nil (w : Nat) : KOk w [] := ⟨List.nodup_nil, fun x hx => by cases hx⟩
theorem rows_ok {w : Nat} : ∀ {ls : List Nat} {ways : KN}, KOk w ways → KOk w (rows ls ways) ∧ W (cnt []) (rows ls ways) = W (cnt ls) ways
  | [], ways, h => ⟨h, rfl⟩
  | a :: ls, ways, h => by
    obtain ⟨h1, e1⟩ := aft_ok (a := a) (ways := ways) (cnt_sym ls) (KOk.nil w) h.bx
    obtain ⟨h2, e2⟩ := rows_ok (ls := ls) h1
    refine ⟨h2, ?_⟩
    show W (cnt []) (rows ls (aft a ways [])) = _
    rw [e2, e1]
    show W (cnt ls) [] + W (fun k => R k a (cnt ls)) ways = W (cnt (a :: ls)) ways
    simp only [W, Nat.zero_add]
    rfl
/-- the number of tables -/
theorem rows_cnt {ls cs : List Nat} (hc : ∀ c ∈ cs, c ≤ 12) : (gN (List.replicate cs.length 0) (rows ls [(srt cs, 1)])).getD 0 = cnt ls cs := by
  have h0 : KOk cs.length [(srt cs, 1)] := ⟨by simp [ND], fun x hx => by
    simp only [List.map_cons, List.map_nil, List.mem_singleton] at hx
    subst hx
    exact Bx.srt ⟨rfl, hc⟩⟩
  obtain ⟨h1, e1⟩ := rows_ok (ls := ls) h0
  rw [← W_one h1.nd]
  have e2 : W (fun x => if x = List.replicate cs.length 0 then 1 else 0) (rows ls [(srt cs, 1)]) = W (cnt []) (rows ls [(srt cs, 1)]) := W_congr fun x hx => by
    have hb := h1.bx x hx
    show _ = if x.sum = 0 then 1 else 0
    by_cases z : x.sum = 0
    · rw [if_pos z, if_pos]
      exact List.eq_replicate_iff.mpr ⟨hb.1, sum0 z⟩
    · rw [if_neg z, if_neg]
      intro e
      rw [e] at z
      simp at z
  rw [e2, e1]
  simp only [W, Nat.one_mul, Nat.add_zero]
  exact cnt_sym ls _ _ (srt_perm cs)
end Lg
end
section
set_option maxRecDepth 100000
set_option maxHeartbeats 4000000
namespace Lg
open Ev
/-! the law's own rows -/
def lo3 (last : Bool) (s : Nat) : Nat := if last then s else 0
def x3S (last : Bool) (c : Nat) (p : List Nat × Nat) : KN := (List.range (min p.2 c + 1 - lo3 last p.2)).map fun i => (p.1 ++ [lo3 last p.2 + i], p.2 - (lo3 last p.2 + i))
def x3 (last : Bool) (c : Nat) (l : KN) : KN := l.flatMap (x3S last c)
def vec : List Nat → KN → KN
  | [], l => l
  | c :: cs, l => vec cs (x3 cs.isEmpty c l)
abbrev zw (a b : List Nat) : List Nat := List.zipWith (fun x y => x - y) a b
theorem zw_app {pre r : List Nat} (h : r.length = pre.length) (c x : Nat) : zw (pre ++ [c]) (r ++ [x]) = zw pre r ++ [c - x] := by
  rw [zw, List.zipWith_append h.symm]
  rfl
def V3 (f : List Nat → Nat) (pre cs : List Nat) (l : KN) : Nat := (l.map fun p => R cs p.2 fun z => f (zw pre p.1 ++ z)).sum
theorem R_e3 (f : List Nat → Nat) (pre : List Nat) (c : Nat) (cs : List Nat) (p : List Nat × Nat) (h : p.1.length = pre.length) : R (c :: cs) p.2 (fun z => f (zw pre p.1 ++ z)) = V3 f (pre ++ [c]) cs (x3S cs.isEmpty c p) := by
  obtain ⟨r, s⟩ := p
  simp only [R, V3, x3S]
  rw [List.map_map, S_list]
  rw [S_cut (n := min s c + 1) (m := c + 1) (by omega) fun i h1 h2 => if_neg (by omega)]
  rw [S_lo (lo := lo3 cs.isEmpty s) fun x hx => by
    unfold lo3 at hx
    split at hx
    · rename_i he
      rw [if_pos (by omega), List.isEmpty_iff.mp he]
      exact if_neg (by omega)
    · exact absurd hx (by omega)]
  refine S_congr fun i hi => ?_
  have : lo3 cs.isEmpty s ≤ s := by unfold lo3; split <;> omega
  rw [if_pos (by omega)]
  show _ = R cs (s - (lo3 cs.isEmpty s + i)) fun z => f (zw (pre ++ [c]) (r ++ [lo3 cs.isEmpty s + i]) ++ z)
  refine R_congr fun z _ _ => ?_
  rw [zw_app h, List.append_assoc]
  rfl
theorem V3_e3 (f : List Nat → Nat) (pre : List Nat) (c : Nat) (cs : List Nat) : ∀ l : KN, (∀ p ∈ l, p.1.length = pre.length) → V3 f pre (c :: cs) l = V3 f (pre ++ [c]) cs (x3 cs.isEmpty c l)
  | [], _ => rfl
  | p :: l, h => by
    have ih := V3_e3 f pre c cs l fun q hq => h q (List.mem_cons_of_mem _ hq)
    have h0 := R_e3 f pre c cs p (h p List.mem_cons_self)
    unfold V3 x3 at ih ⊢
    unfold V3 at h0
    rw [List.map_cons, List.sum_cons, List.flatMap_cons, List.map_append, List.sum_append, ← ih, h0]
theorem x3_mem {last : Bool} {c n B : Nat} {l : KN} (h : ∀ p ∈ l, p.1.length = n ∧ p.2 < B) : ∀ p ∈ x3 last c l, p.1.length = n + 1 ∧ p.2 < B := by
  intro p hp
  unfold x3 at hp
  obtain ⟨q, hq, hp⟩ := List.mem_flatMap.mp hp
  unfold x3S at hp
  obtain ⟨i, _, rfl⟩ := List.mem_map.mp hp
  obtain ⟨h1, h2⟩ := h q hq
  exact ⟨by simp [h1], by show q.2 - _ < B; omega⟩
theorem V3_vec (f : List Nat → Nat) : ∀ (cs pre : List Nat) (l : KN) (B : Nat), (∀ p ∈ l, p.1.length = pre.length ∧ p.2 < B) → V3 f pre cs l = V3 f (pre ++ cs) [] (vec cs l)
  | [], pre, l, _, _ => by rw [List.append_nil]; rfl
  | c :: cs, pre, l, B, h => by
    rw [V3_e3 f pre c cs l fun p hp => (h p hp).1]
    have := V3_vec f cs (pre ++ [c]) (x3 cs.isEmpty c l) B (fun p hp => by
      have := x3_mem h p hp
      exact ⟨by rw [this.1]; simp, this.2⟩)
    rw [this, List.append_assoc]
    rfl
theorem vec_mem : ∀ {cs : List Nat} {l : KN} {n B : Nat}, (∀ p ∈ l, p.1.length = n ∧ p.2 < B) → ∀ p ∈ vec cs l, p.1.length = n + cs.length ∧ p.2 < B
  | [], l, n, B, h => h
  | c :: cs, l, n, B, h => by
    intro p hp
    obtain ⟨a, b⟩ := vec_mem (cs := cs) (x3_mem h) p hp
    exact ⟨by rw [a, List.length_cons]; omega, b⟩
theorem vec_zero : ∀ {cs : List Nat} {l : KN}, cs ≠ [] → ∀ p ∈ vec cs l, p.2 = 0
  | [c], l, _ => by
    intro p hp
    have hp : p ∈ x3 true c l := hp
    unfold x3 at hp
    obtain ⟨q, hq, hp⟩ := List.mem_flatMap.mp hp
    unfold x3S at hp
    obtain ⟨i, _, rfl⟩ := List.mem_map.mp hp
    show q.2 - (q.2 + i) = 0
    omega
  | c :: d :: cs, l, _ => vec_zero (cs := d :: cs) (l := x3 false c l) (by simp)
theorem vec_sum {cs : List Nat} (h0 : cs ≠ []) (a : Nat) (f : List Nat → Nat) : ((vec cs [([], a)]).map fun q => f (zw cs q.1)).sum = R cs a f := by
  have h := V3_vec f cs [] [([], a)] (a + 1) fun p hp => by rw [List.mem_singleton.mp hp]; exact ⟨rfl, Nat.lt_succ_self a⟩
  have e1 : V3 f [] cs [([], a)] = R cs a f := by
    simp only [V3, List.map_cons, List.map_nil, List.sum_cons, List.sum_nil, Nat.add_zero]
    rfl
  rw [e1] at h
  rw [h]
  unfold V3
  congr 1
  refine List.map_congr_left fun q hq => ?_
  show f (zw cs q.1) = if q.2 = 0 then f (zw cs q.1 ++ []) else 0
  rw [if_pos (vec_zero h0 q hq), List.append_nil]
theorem x3S_len {last : Bool} {c : Nat} (hc : c ≤ 12) (p : List Nat × Nat) : (x3S last c p).length ≤ 13 := by
  unfold x3S
  rw [List.length_map, List.length_range]
  omega
theorem x3_len {last : Bool} {c : Nat} (hc : c ≤ 12) : ∀ l : KN, (x3 last c l).length ≤ 13 * l.length
  | [] => by simp [x3]
  | p :: l => by
    have h := x3_len (last := last) hc l
    have := x3S_len (last := last) hc p
    unfold x3 at h ⊢
    rw [List.flatMap_cons, List.length_append, List.length_cons]
    omega
def Le (r pre : List Nat) : Prop := ∀ (j x : Nat), r[j]? = some x → ∃ c, pre[j]? = some c ∧ x ≤ c
theorem Le.snoc {r pre : List Nat} (h : Le r pre) (hl : r.length = pre.length) {x c : Nat} (hx : x ≤ c) : Le (r ++ [x]) (pre ++ [c]) := by
  intro j y e
  by_cases hj : j < r.length
  · rw [List.getElem?_append_left hj] at e
    obtain ⟨d, e1, e2⟩ := h j y e
    exact ⟨d, by rw [List.getElem?_append_left (by omega)]; exact e1, e2⟩
  · have hj2 : j = r.length := by
      have := (List.getElem?_eq_some_iff.mp e).1
      rw [List.length_append, List.length_singleton] at this
      omega
    rw [hj2, List.getElem?_append_right (Nat.le_refl _), Nat.sub_self] at e
    cases e
    exact ⟨c, by rw [hj2, hl, List.getElem?_append_right (Nat.le_refl _), Nat.sub_self]; rfl, hx⟩
theorem x3_le {last : Bool} {c : Nat} {pre : List Nat} {l : KN} (h : ∀ p ∈ l, p.1.length = pre.length ∧ Le p.1 pre) : ∀ p ∈ x3 last c l, p.1.length = (pre ++ [c]).length ∧ Le p.1 (pre ++ [c]) := by
  intro p hp
  unfold x3 at hp
  obtain ⟨q, hq, hp⟩ := List.mem_flatMap.mp hp
  unfold x3S at hp
  obtain ⟨i, hi, rfl⟩ := List.mem_map.mp hp
  obtain ⟨h1, h2⟩ := h q hq
  have := List.mem_range.mp hi
  exact ⟨by simp [h1], h2.snoc h1 (by omega)⟩
theorem vec_le : ∀ {cs pre : List Nat} {l : KN}, (∀ p ∈ l, p.1.length = pre.length ∧ Le p.1 pre) → ∀ p ∈ vec cs l, p.1.length = (pre ++ cs).length ∧ Le p.1 (pre ++ cs)
  | [], pre, l, h => by rw [List.append_nil]; exact h
  | c :: cs, pre, l, h => by
    have := vec_le (cs := cs) (x3_le (last := cs.isEmpty) (c := c) h)
    rw [List.append_assoc] at this
    exact this
theorem vec_len : ∀ {cs : List Nat} {l : KN}, (∀ c ∈ cs, c ≤ 12) → (vec cs l).length ≤ l.length * 13 ^ cs.length
  | [], l, _ => by simp [vec]
  | c :: cs, l, hc => by
    have h1 := vec_len (cs := cs) (l := x3 cs.isEmpty c l) fun x hx => hc x (List.mem_cons_of_mem _ hx)
    have h2 := Nat.mul_le_mul_right (13 ^ cs.length) (x3_len (last := cs.isEmpty) (hc c List.mem_cons_self) l)
    have e13 : l.length * 13 ^ (cs.length + 1) = 13 * l.length * 13 ^ cs.length := by rw [Nat.pow_succ, Nat.mul_comm (13 ^ cs.length) 13, ← Nat.mul_assoc, Nat.mul_comm l.length 13]
    rw [List.length_cons, e13]
    exact Nat.le_trans h1 h2
theorem zw_get {cs r : List Nat} (h : r.length = cs.length) : (List.range cs.length).map (fun j => cs.getD j 0 - r.getD j 0) = zw cs r := by
  apply List.ext_getElem
  · simp [h]
  · intro j h1 h2
    rw [List.length_map, List.length_range] at h1
    simp [h, h1]
end Lg
end
section
set_option maxRecDepth 100000
set_option maxHeartbeats 0
namespace Lw
open PySem PySem.Spec PyProof.Rows L2 He Ev
def top (i : Nat) : Stmt := PySem.Challenge.pw_piecerealm_k43_table_numbers.main.body.getD i (.Pass ⟨0, 0, 0, 0⟩)
def b0 : Sts := (.cons (.ret (.and (.isI (.var 0) [.b .int] false) (.not (.isI (.var 0) [.b .bool] false))))
    .nil)
def b1 : Sts := (.cons (.ret (.and (.call 0 (.cons (.var 0) .nil)) (.cmp .ge (.var 0) (.int 0))))
    .nil)
def b2e0 : Ex := (.call 1 (.cons (.var 1) .nil))
def b2 : Sts := (.cons (.ret (.and (.isI (.var 0) [.b .tuple] false) (.bi .all false (.cons (.lc false [1] (.nm 1) (.seq (.var 0)) .no b2e0) .nil))))
    .nil)
def b3 : Sts := (.cons (.ife (.not (.call 2 (.cons (.var 0) .nil)))
    (.cons (.rai 1 (.cons (.var 0) .nil))
    .nil)
    .nil)
    (.cons (.ife (.not (.call 2 (.cons (.var 1) .nil)))
    (.cons (.rai 1 (.cons (.var 1) .nil))
    .nil)
    .nil)
    (.cons (.ife (.cmp .ne (.bi .sum false (.cons (.var 0) .nil)) (.bi .sum false (.cons (.var 1) .nil)))
    (.cons (.rai 2 (.cons (.str [115, 117, 109]) .nil))
    .nil)
    .nil)
    .nil)))
def b4f0 : Exo := (.yes (.cmp .eq (.var 8) (.int 0)))
def b4e0 : Ex := (.var 7)
def b4l0 : Sts := (.cons (.ex (.bm .append (.var 6) (.cons (.tup (.cons (.bin .add false (.var 7) (.tup (.cons (.bin .sub false (.var 5) (.var 10)) .nil))) (.cons (.bin .sub false (.var 8) (.var 10)) .nil))) .nil)))
    .nil)
def b4l1 : Sts := (.cons (.asg 9 (.bi .max false (.cons (.int 0) (.cons (.bin .sub false (.var 8) (.idx (.var 2) (.bin .add false (.var 4) (.int 1)))) .nil))))
    (.cons (.forr (.nm 10) (.rng (.cons (.var 9) (.cons (.bin .add false (.bi .min false (.cons (.var 5) (.cons (.var 8) .nil))) (.int 1)) .nil)))
    b4l0)
    .nil))
def b4l2 : Sts := (.cons (.asg 6 (.lst true .nil))
    (.cons (.forr (.tp [7, 8]) (.seq (.var 3))
    b4l1)
    (.cons (.asg 3 (.var 6))
    .nil)))
def b4e1 : Ex := (.bi .sum false (.cons (.slc false (.var 0) (.yes (.var 4)) .no) .nil))
def b4 : Sts := (.cons (.asg 2 (.lc false [4] (.nm 4) (.rng (.cons (.bin .add false (.bi .len false (.cons (.var 0) .nil)) (.int 1)) .nil)) .no b4e1))
    (.cons (.asg 3 (.lst true (.cons (.tup (.cons (.tup .nil) (.cons (.var 1) .nil))) .nil)))
    (.cons (.forr (.tp [4, 5]) (.enm (.var 0))
    b4l2)
    (.cons (.ret (.lc false [7, 8] (.tp [7, 8]) (.seq (.var 3)) b4f0 b4e0))
    .nil))))
def b5l0 : Sts := (.dset 6 (.bi .sorted false (.cons (.var 5) .nil)) (.var 2) (.bin .add false (.dget (.var 2) (.var 6) (.int 0)) (.var 4))
    .nil)
def b5l1 : Sts := (.cons (.forr (.nm 5) (.seq (.call 4 (.cons (.var 3) (.cons (.var 1) .nil))))
    b5l0)
    .nil)
def b5 : Sts := (.cons (.asg 2 .dnew)
    (.cons (.forI 3 4 0
    b5l1)
    (.cons (.ret (.var 2))
    .nil)))
def b6l0 : Sts := (.cons (.asg 2 (.call 5 (.cons (.var 2) (.cons (.var 3) .nil))))
    .nil)
def b6 : Sts := (.cons (.ex (.call 3 (.cons (.var 0) (.cons (.var 1) .nil))))
    (.cons (.asg 2 (.dlit (.bi .sorted false (.cons (.var 1) .nil)) (.int 1)))
    (.cons (.forr (.nm 3) (.seq (.var 0))
    b6l0)
    (.cons (.ret (.dget (.var 2) (.bin .mul false (.tup (.cons (.int 0) .nil)) (.bi .len false (.cons (.var 1) .nil))) (.int 0)))
    .nil))))
def b7e0 : Ex := (.bi .int false (.cons (.var 1) .nil))
def b7 : Sts := (.cons (.ret (.lst true (.cons (.lc false [1] (.nm 1) (.seq (.var 0)) .no b7e0) (.cons (.int 0) (.cons (.int 0) (.cons (.int 0) .nil))))))
    .nil)
def b8l0 : Sts := (.cons (.ife (.or (.cmp .gt (.idx (.var 0) (.int 2)) (.int 0)) (.cmp .ge (.idx (.var 0) (.int 1)) (.bi .len false (.cons (.var 2) .nil))))
    (.cons .brk
    .nil)
    .nil)
    (.cons (.ife (.cmp .ge (.bi .abs false (.cons (.idx (.var 2) (.idx (.var 0) (.int 1))) .nil)) (.bin .pow false (.int 10) (.int 15)))
    (.cons (.asgI (.var 0) (.int 2) (.bi .abs false (.cons (.idx (.var 2) (.idx (.var 0) (.int 1))) .nil)))
    .nil)
    .nil)
    (.cons (.asgI (.var 0) (.int 1) (.bin .add false (.idx (.var 0) (.int 1)) (.int 1)))
    .nil)))
def b8 : Sts := (.cons (.asg 2 (.idx (.var 0) (.int 0)))
    (.cons (.asgI (.var 0) (.int 3) (.bin .add false (.idx (.var 0) (.int 3)) (.int 1)))
    (.cons (.forr (.nm 3) (.rng (.cons (.bi .len false (.cons (.var 2) .nil)) .nil))
    b8l0)
    (.cons (.ife (.cmp .gt (.idx (.var 0) (.int 2)) (.int 0))
    (.cons (.asg 6 (.bin .mod false (.bi .int false (.cons (.idx (.var 0) (.int 2)) .nil)) (.var 1)))
    (.cons (.asgI (.var 0) (.int 2) (.bin .div false (.idx (.var 0) (.int 2)) (.var 1)))
    (.cons (.ret (.var 6))
    .nil)))
    .nil)
    (.cons (.asg 4 (.int 0))
    (.cons (.ife (.cmp .gt (.bi .len false (.cons (.var 2) .nil)) (.int 0))
    (.cons (.asg 4 (.bin .mod false (.bi .int false (.cons (.bi .abs false (.cons (.idx (.var 2) (.bin .mod false (.bi .int false (.cons (.idx (.var 0) (.int 3)) .nil)) (.bi .len false (.cons (.var 2) .nil)))) .nil)) .nil)) (.int 1000000007)))
    .nil)
    .nil)
    (.cons (.asg 5 (.bin .mod false (.bi .int false (.cons (.bin .add false (.bin .add false (.bin .mul false (.var 4) (.int 69069)) (.bin .mul false (.idx (.var 0) (.int 3)) (.int 40503))) (.int 271)) .nil)) (.int 4294967291)))
    (.cons (.asg 5 (.bin .mod false (.bi .int false (.cons (.bin .add false (.bin .add false (.bin .mul false (.var 5) (.var 5)) (.bin .mul false (.idx (.var 0) (.int 3)) (.int 26539))) (.int 97)) .nil)) (.int 4294967279)))
    (.cons (.asg 5 (.bin .mod false (.bi .int false (.cons (.bin .add false (.bin .add false (.bin .mul false (.var 5) (.int 31821)) (.bin .div false (.var 4) (.int 9))) (.int 11)) .nil)) (.int 2147483629)))
    (.cons (.ret (.bin .mod false (.bi .int false (.cons (.bin .div false (.var 5) (.int 6)) .nil)) (.var 1)))
    .nil))))))))))
def b9l0 : Sts := (.cons (.asg 5 (.call 8 (.cons (.var 0) (.cons (.bi .len false (.cons (.var 2) .nil)) .nil))))
    (.cons (.ex (.bm .append (.var 3) (.cons (.idx (.var 2) (.var 5)) .nil)))
    (.cons (.asg 2 (.bin .add false (.slc false (.var 2) .no (.yes (.var 5))) (.slc false (.var 2) (.yes (.bin .add false (.var 5) (.int 1))) .no)))
    .nil)))
def b9e0 : Ex := (.var 4)
def b9 : Sts := (.cons (.asg 2 (.lc false [4] (.nm 4) (.rng (.cons (.var 1) .nil)) .no b9e0))
    (.cons (.asg 3 (.lst true .nil))
    (.cons (.forr (.nm 4) (.rng (.cons (.var 1) .nil))
    b9l0)
    (.cons (.ret (.var 3))
    .nil))))
def b10l0 : Sts := (.cons (.ife (.not (.call 10 (.cons (.idx (.var 0) (.var 2)) (.cons (.idx (.var 1) (.var 2)) .nil))))
    (.cons (.ret (.bl false))
    .nil)
    .nil)
    .nil)
def b10 : Sts := (.cons (.ife (.isN false (.var 1))
    (.cons (.ret (.isN false (.var 0)))
    .nil)
    .nil)
    (.cons (.ife (.isI (.var 1) [.b .bool] false)
    (.cons (.ret (.and (.isI (.var 0) [.b .bool] false) (.cmp .eq (.var 0) (.var 1))))
    .nil)
    .nil)
    (.cons (.ife (.isI (.var 1) [.b .int] false)
    (.cons (.ret (.and (.isI (.var 0) [.b .int] false) (.and (.not (.isI (.var 0) [.b .bool] false)) (.cmp .eq (.var 0) (.var 1)))))
    .nil)
    .nil)
    (.cons (.ife (.isI (.var 1) [.b .str] false)
    (.cons (.ret (.and (.isI (.var 0) [.b .str] false) (.cmp .eq (.var 0) (.var 1))))
    .nil)
    .nil)
    (.cons (.ife (.or (.not (.isI (.var 0) [.b .tuple] false)) (.cmp .ne (.bi .len false (.cons (.var 0) .nil)) (.bi .len false (.cons (.var 1) .nil))))
    (.cons (.ret (.bl false))
    .nil)
    .nil)
    (.cons (.forr (.nm 2) (.rng (.cons (.bi .len false (.cons (.var 1) .nil)) .nil))
    b10l0)
    (.cons (.ret (.bl true))
    .nil)))))))
def b11l0 : Sts := (.cons (.asg 2 (.bin .div false (.bin .mul false (.var 2) (.bin .sub false (.var 0) (.var 3))) (.bin .add false (.var 3) (.int 1))))
    .nil)
def b11 : Sts := (.cons (.ife (.cmp .lt (.var 0) (.var 1))
    (.cons (.ret (.int 0))
    .nil)
    .nil)
    (.cons (.asg 2 (.int 1))
    (.cons (.forr (.nm 3) (.rng (.cons (.var 1) .nil))
    b11l0)
    (.cons (.ret (.var 2))
    .nil))))
def b12l0 : Sts := (.cons (.ife (.cmp .eq (.bin .band false (.bin .shr false (.var 4) (.var 7)) (.int 1)) (.int 1))
    (.cons (.asg 5 (.bin .sub false (.bin .sub false (.var 5) (.idx (.var 1) (.var 7))) (.int 1)))
    (.cons (.asg 6 (.bin .sub false (.int 0) (.var 6)))
    .nil))
    .nil)
    .nil)
def b12l1 : Sts := (.cons (.asg 5 (.var 0))
    (.cons (.asg 6 (.int 1))
    (.cons (.forr (.nm 7) (.rng (.cons (.var 2) .nil))
    b12l0)
    (.cons (.ife (.cmp .ge (.var 5) (.int 0))
    (.cons (.asg 3 (.bin .add false (.var 3) (.bin .mul false (.var 6) (.call 11 (.cons (.bin .sub false (.bin .add false (.var 5) (.var 2)) (.int 1)) (.cons (.bin .sub false (.var 2) (.int 1)) .nil))))))
    .nil)
    .nil)
    .nil))))
def b12 : Sts := (.cons (.asg 2 (.bi .len false (.cons (.var 1) .nil)))
    (.cons (.asg 3 (.int 0))
    (.cons (.forr (.nm 4) (.rng (.cons (.bin .shl false (.int 1) (.var 2)) .nil))
    b12l1)
    (.cons (.ret (.var 3))
    .nil))))
def b13e0 : Ex := (.bin .sub false (.idx (.var 1) (.var 3)) (.idx (.idx (.var 5) (.int 0)) (.var 3)))
def b13l0 : Sts := (.cons (.asg 4 (.bin .add false (.var 4) (.call 12 (.cons (.idx (.var 0) (.int 1)) (.cons (.lc false [3] (.nm 3) (.rng (.cons (.bi .len false (.cons (.var 1) .nil)) .nil)) .no b13e0) .nil)))))
    .nil)
def b13l1 : Sts := (.cons (.ex (.bm .append (.var 6) (.cons (.tup (.cons (.bin .add false (.idx (.var 5) (.int 0)) (.tup (.cons (.var 8) .nil))) (.cons (.bin .sub false (.idx (.var 5) (.int 1)) (.var 8)) .nil))) .nil)))
    .nil)
def b13l2 : Sts := (.cons (.asg 7 (.int 0))
    (.cons (.ife (.cmp .eq (.var 3) (.bin .sub false (.bi .len false (.cons (.var 1) .nil)) (.int 1)))
    (.cons (.asg 7 (.idx (.var 5) (.int 1)))
    .nil)
    .nil)
    (.cons (.forr (.nm 8) (.rng (.cons (.var 7) (.cons (.bin .add false (.bi .min false (.cons (.idx (.var 5) (.int 1)) (.cons (.idx (.var 1) (.var 3)) .nil))) (.int 1)) .nil)))
    b13l1)
    .nil)))
def b13l3 : Sts := (.cons (.asg 6 (.lst true .nil))
    (.cons (.forr (.nm 5) (.seq (.var 2))
    b13l2)
    (.cons (.asg 2 (.var 6))
    .nil)))
def b13 : Sts := (.cons (.asg 2 (.lst true (.cons (.tup (.cons (.tup .nil) (.cons (.idx (.var 0) (.int 0)) .nil))) .nil)))
    (.cons (.forr (.nm 3) (.rng (.cons (.bi .len false (.cons (.var 1) .nil)) .nil))
    b13l3)
    (.cons (.asg 4 (.int 0))
    (.cons (.forr (.nm 5) (.seq (.var 2))
    b13l0)
    (.cons (.ret (.var 4))
    .nil)))))
def b14e0 : Ex := (.idx (.var 4) (.var 5))
def b14l0 : Sts := (.cons (.asg 6 (.bi .max false (.cons (.int 0) (.cons (.bin .sub false (.var 2) (.bin .mul false (.var 3) (.bin .sub false (.bin .sub false (.var 1) (.int 1)) (.var 5)))) .nil))))
    (.cons (.asg 7 (.bi .min false (.cons (.var 3) (.cons (.var 2) .nil))))
    (.cons (.ex (.bm .append (.var 4) (.cons (.bin .add false (.var 6) (.call 8 (.cons (.var 0) (.cons (.bin .add false (.bin .sub false (.var 7) (.var 6)) (.int 1)) .nil)))) .nil)))
    (.cons (.asg 2 (.bin .sub false (.var 2) (.idx (.var 4) (.var 5))))
    .nil))))
def b14 : Sts := (.cons (.asg 4 (.lst true .nil))
    (.cons (.forr (.nm 5) (.rng (.cons (.var 1) .nil))
    b14l0)
    (.cons (.ret (.lc false [5] (.nm 5) (.seq (.call 9 (.cons (.var 0) (.cons (.var 1) .nil)))) .no b14e0))
    .nil)))
def b15e0 : Ex := (.int 1)
def b15e1 : Ex := (.int 1)
def b15 : Sts := (.cons (.asg 1 (.call 8 (.cons (.var 0) (.cons (.int 8) .nil))))
    (.cons (.asg 2 (.bin .add false (.int 1) (.call 8 (.cons (.var 0) (.cons (.int 4) .nil)))))
    (.cons (.ife (.cmp .lt (.var 1) (.int 3))
    (.cons (.asg 4 (.idx (.lst false (.cons (.int 3) (.cons (.int 6) (.cons (.int 12) .nil)))) (.call 8 (.cons (.var 0) (.cons (.int 3) .nil)))))
    (.cons (.asg 5 (.call 8 (.cons (.var 0) (.cons (.bin .add false (.bin .mul false (.var 4) (.bi .min false (.cons (.int 2) (.cons (.var 2) .nil)))) (.int 1)) .nil))))
    (.cons (.asg 6 (.call 14 (.cons (.var 0) (.cons (.int 2) (.cons (.var 5) (.cons (.var 4) .nil))))))
    (.cons (.asg 7 (.call 14 (.cons (.var 0) (.cons (.var 2) (.cons (.var 5) (.cons (.var 4) .nil))))))
    (.cons (.ret (.tup (.cons (.var 6) (.cons (.var 7) (.cons (.call 12 (.cons (.idx (.var 6) (.int 0)) (.cons (.var 7) .nil))) .nil)))))
    .nil)))))
    .nil)
    (.cons (.ife (.cmp .lt (.var 1) (.int 6))
    (.cons (.asg 5 (.call 8 (.cons (.var 0) (.cons (.int 10) .nil))))
    (.cons (.asg 6 (.call 14 (.cons (.var 0) (.cons (.int 3) (.cons (.var 5) (.cons (.int 9) .nil))))))
    (.cons (.asg 7 (.call 14 (.cons (.var 0) (.cons (.var 2) (.cons (.var 5) (.cons (.int 9) .nil))))))
    (.cons (.ret (.tup (.cons (.var 6) (.cons (.var 7) (.cons (.call 13 (.cons (.bi .sorted false (.cons (.var 6) .nil)) (.cons (.var 7) .nil))) .nil)))))
    .nil))))
    .nil)
    (.cons (.ife (.cmp .eq (.var 1) (.int 6))
    (.cons (.asg 8 (.call 8 (.cons (.var 0) (.cons (.int 7) .nil))))
    (.cons (.asg 3 (.bin .add false (.bin .add false (.call 11 (.cons (.bin .add false (.var 8) (.int 2)) (.cons (.int 4) .nil))) (.call 11 (.cons (.bin .add false (.var 8) (.int 3)) (.cons (.int 4) .nil)))) (.call 11 (.cons (.bin .add false (.var 8) (.int 4)) (.cons (.int 4) .nil)))))
    (.cons (.ret (.tup (.cons (.lst false (.cons (.var 8) (.cons (.var 8) (.cons (.var 8) .nil)))) (.cons (.lst false (.cons (.var 8) (.cons (.var 8) (.cons (.var 8) .nil)))) (.cons (.var 3) .nil)))))
    .nil)))
    .nil)
    (.cons (.ife (.and (.cmp .eq (.var 2) (.int 4)) (.cmp .eq (.call 8 (.cons (.var 0) (.cons (.int 2) .nil))) (.int 0)))
    (.cons (.ret (.tup (.cons (.lst false (.cons (.int 2) (.cons (.int 2) (.cons (.int 2) (.cons (.int 2) .nil))))) (.cons (.lst false (.cons (.int 2) (.cons (.int 2) (.cons (.int 2) (.cons (.int 2) .nil))))) (.cons (.int 282) .nil)))))
    .nil)
    .nil)
    (.cons (.asg 3 (.idx (.lst false (.cons (.int 1) (.cons (.int 1) (.cons (.int 2) (.cons (.int 6) (.cons (.int 24) .nil)))))) (.var 2)))
    (.cons (.ret (.tup (.cons (.lc false [9] (.nm 9) (.rng (.cons (.var 2) .nil)) .no b15e1) (.cons (.lc false [9] (.nm 9) (.rng (.cons (.var 2) .nil)) .no b15e0) (.cons (.var 3) .nil)))))
    .nil))))))))
def b16e0 : Ex := (.idx (.var 4) (.var 7))
def b16 : Sts := (.cons (.asg 1 (.call 7 (.cons (.var 0) .nil)))
    (.cons (.asgT [3, 4, 5] (.call 15 (.cons (.var 1) .nil)))
    (.cons (.ife (.and (.cmp .lt (.bi .len false (.cons (.var 3) .nil)) (.int 4)) (.cmp .eq (.call 8 (.cons (.var 1) (.cons (.int 3) .nil))) (.int 0)))
    (.cons (.asg 6 (.call 8 (.cons (.var 1) (.cons (.bin .add false (.bi .len false (.cons (.var 3) .nil)) (.int 1)) .nil))))
    (.cons (.asg 3 (.bin .add false (.bin .add false (.slc false (.var 3) .no (.yes (.var 6))) (.lst false (.cons (.int 0) .nil))) (.slc false (.var 3) (.yes (.var 6)) .no)))
    .nil))
    .nil)
    (.cons (.ife (.not (.call 10 (.cons (.call 6 (.cons (.bi .tuple false (.cons (.var 3) .nil)) (.cons (.bi .tuple false (.cons (.var 4) .nil)) .nil))) (.cons (.var 5) .nil))))
    (.cons (.ret (.bl false))
    .nil)
    .nil)
    (.cons (.asg 2 (.bi .tuple false (.cons (.lc false [7] (.nm 7) (.seq (.call 9 (.cons (.var 1) (.cons (.bi .len false (.cons (.var 4) .nil)) .nil)))) .no b16e0) .nil)))
    (.cons (.ret (.call 10 (.cons (.calk 6 .nil (.cons (.var 2) (.cons (.bi .tuple false (.cons (.var 3) .nil)) .nil)) [0, 1]) (.cons (.var 5) .nil))))
    .nil))))))
def b17 : Sts := (.cons (.tryE (.cons (.ret (.call 16 (.cons (.var 0) .nil)))
    .nil)
    0 none (.bl false))
    .nil)
def T : Tb where
  fns := [⟨1, 1, b0, true⟩, ⟨1, 1, b1, true⟩, ⟨1, 2, b2, true⟩, ⟨2, 2, b3, true⟩, ⟨2, 11, b4, true⟩, ⟨2, 7, b5, true⟩, ⟨2, 4, b6, true⟩, ⟨1, 2, b7, false⟩, ⟨2, 7, b8, true⟩, ⟨2, 6, b9, true⟩, ⟨2, 3, b10, true⟩, ⟨2, 4, b11, true⟩, ⟨2, 8, b12, true⟩, ⟨2, 9, b13, true⟩, ⟨4, 8, b14, true⟩, ⟨1, 10, b15, true⟩, ⟨1, 8, b16, true⟩, ⟨1, 1, b17, true⟩]
  cls := []
  exc := [[], [0], [1]]
  anc := [[0], [1, 0], [2, 0]]
  glb := []
def M : Nm where
  fns := ["is_integer", "is_number", "are_numbers", "ask_margins", "rows_taken", "after_row", "table_number", "_law_start", "_law_pick", "_law_order", "_law_same", "_law_choices", "_law_two", "_law_three", "_law_margin", "_law_case", "_law_all", "law"]
  kws := [(6, 0, ["left", "right"], [0, 1])]
  cls := []
  ckw := []
  exc := ["PieceError", "InvalidRow", "Undefined"]
  atts := ["value", "what"]
  glb := []
def e0 : Ent := ⟨⟨("is_integer", none), "is_integer", "is_integer", defArgs (top 1), defBody (top 1), defScope (top 1), [], []⟩, ["value"], ["value"]⟩
def e1 : Ent := ⟨⟨("is_number", none), "is_number", "is_number", defArgs (top 2), defBody (top 2), defScope (top 2), [], []⟩, ["value"], ["value"]⟩
def e2 : Ent := ⟨⟨("are_numbers", none), "are_numbers", "are_numbers", defArgs (top 3), defBody (top 3), defScope (top 3), [], []⟩, ["value", "one"], ["value"]⟩
def e3 : Ent := ⟨⟨("ask_margins", none), "ask_margins", "ask_margins", defArgs (top 9), defBody (top 9), defScope (top 9), [], []⟩, ["left", "right"], ["left", "right"]⟩
def e4 : Ent := ⟨⟨("rows_taken", none), "rows_taken", "rows_taken", defArgs (top 10), defBody (top 10), defScope (top 10), [], []⟩, ["lefts", "amount", "rooms", "begun", "at", "room", "longer", "rest", "still", "least", "taken"], ["lefts", "amount"]⟩
def e5 : Ent := ⟨⟨("after_row", none), "after_row", "after_row", defArgs (top 11), defBody (top 11), defScope (top 11), [], []⟩, ["ways", "amount", "after", "lefts", "many", "rest", "key"], ["ways", "amount"]⟩
def e6 : Ent := ⟨⟨("table_number", none), "table_number", "table_number", defArgs (top 12), defBody (top 12), defScope (top 12), [], []⟩, ["left", "right", "ways", "amount"], ["left", "right"]⟩
def e7 : Ent := ⟨⟨("_law_start", none), "_law_start", "_law_start", defArgs (top 14), defBody (top 14), defScope (top 14), [], []⟩, ["script", "cell"], ["script"]⟩
def e8 : Ent := ⟨⟨("_law_pick", none), "_law_pick", "_law_pick", defArgs (top 15), defBody (top 15), defScope (top 15), [], []⟩, ["state", "many", "cells", "k", "seed", "mixed", "digit"], ["state", "many"]⟩
def e9 : Ent := ⟨⟨("_law_order", none), "_law_order", "_law_order", defArgs (top 16), defBody (top 16), defScope (top 16), [], []⟩, ["state", "many", "left", "out", "k", "at"], ["state", "many"]⟩
def e10 : Ent := ⟨⟨("_law_same", none), "_law_same", "_law_same", defArgs (top 17), defBody (top 17), defScope (top 17), [], []⟩, ["came", "due", "k"], ["came", "due"]⟩
def e11 : Ent := ⟨⟨("_law_choices", none), "_law_choices", "_law_choices", defArgs (top 18), defBody (top 18), defScope (top 18), [], []⟩, ["many", "some", "out", "k"], ["many", "some"]⟩
def e12 : Ent := ⟨⟨("_law_two", none), "_law_two", "_law_two", defArgs (top 19), defBody (top 19), defScope (top 19), [], []⟩, ["first", "columns", "many", "out", "code", "rest", "sign", "j"], ["first", "columns"]⟩
def e13 : Ent := ⟨⟨("_law_three", none), "_law_three", "_law_three", defArgs (top 20), defBody (top 20), defScope (top 20), [], []⟩, ["left", "columns", "rows", "j", "total", "one", "out", "low", "number"], ["left", "columns"]⟩
def e14 : Ent := ⟨⟨("_law_margin", none), "_law_margin", "_law_margin", defArgs (top 21), defBody (top 21), defScope (top 21), [], []⟩, ["state", "many", "total", "most", "out", "k", "low", "high"], ["state", "many", "total", "most"]⟩
def e15 : Ent := ⟨⟨("_law_case", none), "_law_case", "_law_case", defArgs (top 22), defBody (top 22), defScope (top 22), [], []⟩, ["state", "way", "wide", "due", "most", "total", "left", "right", "many", "k"], ["state"]⟩
def e16 : Ent := ⟨⟨("_law_all", none), "_law_all", "_law_all", defArgs (top 23), defBody (top 23), defScope (top 23), [], []⟩, ["script", "state", "other", "left", "right", "due", "at", "k"], ["script"]⟩
def e17 : Ent := ⟨⟨("law", none), "law", "law", defArgs (top 24), defBody (top 24), defScope (top 24), [], []⟩, ["script"], ["script"]⟩
def es : List Ent := [e0, e1, e2, e3, e4, e5, e6, e7, e8, e9, e10, e11, e12, e13, e14, e15, e16, e17]
theorem bp0 : BnP e0 := fun _ _ _ _ _ _ us hl => match us, hl with | [_], _ => rfl
theorem bp1 : BnP e1 := fun _ _ _ _ _ _ us hl => match us, hl with | [_], _ => rfl
theorem bp2 : BnP e2 := fun _ _ _ _ _ _ us hl => match us, hl with | [_], _ => rfl
theorem bp3 : BnP e3 := fun _ _ _ _ _ _ us hl => match us, hl with | [_, _], _ => rfl
theorem bp4 : BnP e4 := fun _ _ _ _ _ _ us hl => match us, hl with | [_, _], _ => rfl
theorem bp5 : BnP e5 := fun _ _ _ _ _ _ us hl => match us, hl with | [_, _], _ => rfl
theorem bp6 : BnP e6 := fun _ _ _ _ _ _ us hl => match us, hl with | [_, _], _ => rfl
theorem bp7 : BnP e7 := fun _ _ _ _ _ _ us hl => match us, hl with | [_], _ => rfl
theorem bp8 : BnP e8 := fun _ _ _ _ _ _ us hl => match us, hl with | [_, _], _ => rfl
theorem bp9 : BnP e9 := fun _ _ _ _ _ _ us hl => match us, hl with | [_, _], _ => rfl
theorem bp10 : BnP e10 := fun _ _ _ _ _ _ us hl => match us, hl with | [_, _], _ => rfl
theorem bp11 : BnP e11 := fun _ _ _ _ _ _ us hl => match us, hl with | [_, _], _ => rfl
theorem bp12 : BnP e12 := fun _ _ _ _ _ _ us hl => match us, hl with | [_, _], _ => rfl
theorem bp13 : BnP e13 := fun _ _ _ _ _ _ us hl => match us, hl with | [_, _], _ => rfl
theorem bp14 : BnP e14 := fun _ _ _ _ _ _ us hl => match us, hl with | [_, _, _, _], _ => rfl
theorem bp15 : BnP e15 := fun _ _ _ _ _ _ us hl => match us, hl with | [_], _ => rfl
theorem bp16 : BnP e16 := fun _ _ _ _ _ _ us hl => match us, hl with | [_], _ => rfl
theorem bp17 : BnP e17 := fun _ _ _ _ _ _ us hl => match us, hl with | [_], _ => rfl
theorem bpA : ∀ e ∈ es, BnP e := by
  intro e h
  simp only [es, List.mem_cons, List.not_mem_nil, or_false] at h
  rcases h with rfl | rfl | rfl | rfl | rfl | rfl | rfl | rfl | rfl | rfl | rfl | rfl | rfl | rfl | rfl | rfl | rfl | rfl
  · exact bp0
  · exact bp1
  · exact bp2
  · exact bp3
  · exact bp4
  · exact bp5
  · exact bp6
  · exact bp7
  · exact bp8
  · exact bp9
  · exact bp10
  · exact bp11
  · exact bp12
  · exact bp13
  · exact bp14
  · exact bp15
  · exact bp16
  · exact bp17
theorem bk0 : BnK e6 0 ["left", "right"] [0, 1] := fun _ _ _ _ _ _ us ws h1 h2 => match us, ws, h1, h2 with | [], [_, _], _, _ => ⟨_, rfl, rfl⟩
theorem bkA : ∀ f n ks pm, (f, n, ks, pm) ∈ M.kws → ∀ e, es[f]? = some e → BnK e n ks pm := by
  intro f n ks pm h e he
  simp only [M, List.mem_cons, List.not_mem_nil, or_false, Prod.mk.injEq] at h
  rcases h with ⟨rfl, rfl, rfl, rfl⟩
  · cases he; exact bk0
theorem bcA : ∀ k n ks pm C f, (k, n, ks, pm) ∈ M.ckw → T.cls[k]? = some C → C.init = some f → ∀ e, es[f]? = some e → BnC e n ks pm := by
  intro k n ks pm C f h hC hi e he
  simp only [M, List.mem_cons, List.not_mem_nil, or_false, Prod.mk.injEq] at h

theorem text_ok : textB M T es = true := by decide +kernel
def chk : PySem.W.Frag → Bool := headB M T es (xB PySem.Challenge.pw_piecerealm_k43_table_numbers M T)
def fnl : List DefD := es.map (·.d)
abbrev hk : PySem.W.Hook := hookX 4 chk fnl
def ob (s : PySem.W.SharedT) : AlD := obsXG 4 chk fnl (HandSHeadRun.getT s)
theorem ob_eq (s : PySem.W.SharedT) : ob s = hk.obs s.abs := obsXG_eq (HandSHeadRun.getT_eq s)
abbrev R : PySem.W.OpenRow := PySem.W.OpenLaw.row PySem.Challenge.rw_piecerealm_k43_table_numbers
def names : List Str := ((PySem.Challenge.pw_piecerealm_k43_table_numbers.main.scope.names).map (·.1)).filter fun x => !(x == "law")
theorem run_head (w : World) : HandSHeadRun.RunEq R (PySem.W.view R.prog [24]) hk ob 6000 names w := by
  intro os
  kernel_rfl
end Lw
open PySem PySem.W PySem.Calls PyProof.Rows
theorem PySem.Challenge.cw_piecerealm_k43_table_numbers_from (hA : Ev.Asked Lw.T 200 17) : PySem.Challenge.rw_piecerealm_k43_table_numbers.Holds := by
  w_on; o_law
  refine HandSHeadRun.head_any (r := OpenLaw.row PySem.Challenge.rw_piecerealm_k43_table_numbers) (q := view (OpenLaw.row PySem.Challenge.rw_piecerealm_k43_table_numbers).prog [24]) (H := Lw.hk) (ob := Lw.ob) (M := 6000) (loose := Lw.names) (d := HandSHeadRun.topDef (OpenLaw.row PySem.Challenge.rw_piecerealm_k43_table_numbers).prog 24) (kwd := []) Lw.ob_eq
    (by kernel_rfl) (fun s => by kernel_rfl) Lw.run_head (by kernel_rfl) (by kernel_rfl) (by kernel_rfl) (by rfl) (by first | assumption | decide +kernel) (by decide +kernel) ⟨rfl, rfl, rfl, rfl, rfl, by decide +kernel⟩ ?hw ?hc
  case hw => w_witness2
  case hc =>
    refine L2.walk_ofE (l := PySem.Challenge.rw_piecerealm_k43_table_numbers) (n := 63) (k := 200) (x := "script") (CX := Ev.CXw (PySem.Challenge.rw_piecerealm_k43_table_numbers).prog) rfl (by decide) (by kernel_rfl) ⟨rfl, by decide, by decide⟩ ?F (fun _ _ _ _ z => Ev.cxw_no z)
    intro w mg fa h Y G hmg0
    obtain ⟨K, KX, c⟩ := Y
    have hmg : mg ("law" : PySem.Str) = some (.ref fa) := by
      have e : (HandSHeadRun.topDef (OpenLaw.row PySem.Challenge.rw_piecerealm_k43_table_numbers).prog 24).name = ("law" : PySem.Str) := by kernel_rfl
      rw [← e]
      exact hmg0
    exact Ev.law_F KX G Lw.text_ok c Lw.bpA Lw.bkA Lw.bcA (fun base hK a => Ev.xmk a) (e := Lw.e17) rfl rfl rfl rfl hmg hA
end
section
set_option maxRecDepth 100000
set_option maxHeartbeats 8000000
namespace Lw
open Ev Lg
theorem ag (S W : Store) (k : Nat) : (S ++ W)[S.length + k]? = W[k]? := by rw [List.getElem?_append_right (by omega)]; congr 1; omega
theorem as (S W : Store) (k : Nat) (c : Cell) : (S ++ W).set (S.length + k) c = S ++ W.set k c := by
  rw [List.set_append_right _ _ (by omega)]
  congr 2
  omega
theorem ag0 (S W : Store) : (S ++ W)[S.length]? = W[0]? := ag S W 0
theorem as0 (S W : Store) (c : Cell) : (S ++ W).set S.length c = S ++ W.set 0 c := as S W 0 c
theorem gapp {S W : Store} {k : Nat} {c : Cell} (h : S[k]? = some c) : (S ++ W)[k]? = some c := by
  rw [List.getElem?_append_left (List.getElem?_eq_some_iff.mp h).1]
  exact h
theorem gOk_one {S : Store} {b : Nat} {c : Cell} (h : S[b]? = some c) (x : Cell) : gOk [(b, c)] (S ++ [x]) = true := by
  have hb : b < S.length := (List.getElem?_eq_some_iff.mp h).1
  unfold gOk
  simp [List.getElem?_append_left hb, h]
theorem gOk_one0 {S : Store} {b : Nat} {c : Cell} (h : S[b]? = some c) : gOk [(b, c)] S = true := by
  unfold gOk
  simp [h]
abbrev il (l : List Int) : List D := l.map .int
theorem il_len (l : List Int) : (il l).length = l.length := by simp
theorem il_get {l : List Int} {k : Nat} (h : k < l.length) : (il l)[k]? = some (.int (l.getD k 0)) := by simp [h]
theorem il_set (l : List Int) (k : Nat) (x : Int) : (il l).set k (.int x) = il (l.set k x) := by
  show (l.map D.int).set k (D.int x) = (l.set k x).map D.int
  rw [List.map_set]
section
variable {tg : Tg} {f : Fr → Store → Os} {g : Gd} {d : D} {ds : List D} {ρ ρ1 ρ2 : Fr} {S S2 : Store}
theorem fg_nil (h : gOk g S = true) : forL tg f g [] ρ S = .nx ρ S := by simp only [forL, h, if_true]
theorem fg_nx (h : gOk g S = true) (h1 : setT tg d ρ S = some ρ1) (h2 : f ρ1 S = .nx ρ2 S2) : forL tg f g (d :: ds) ρ S = forL tg f g ds ρ2 S2 := by simp only [forL, h, if_true, h1, h2]
theorem fg_ct (h : gOk g S = true) (h1 : setT tg d ρ S = some ρ1) (h2 : f ρ1 S = .ct ρ2 S2) : forL tg f g (d :: ds) ρ S = forL tg f g ds ρ2 S2 := by simp only [forL, h, if_true, h1, h2]
end
abbrev Own (X : Store) : Prop := ∀ c ∈ X, belowC (X.length + 1) c = true
def QG (ns : List Int) (X : Store) (k : Nat) (S : Store) : Prop := (ns.length ≤ 63 ∧ Own X) ∧ ∃ a b c, S = stc ns a b c :: X ∧ 0 ≤ a ∧ 0 ≤ b ∧ 0 ≤ c ∧ c ≤ (k : Int)
section
variable {ns : List Int} {X Y : Store} {k k' : Nat} {S S' : Store}
theorem QG.len (q : QG ns X k S) : S.length = X.length + 1 := by
  obtain ⟨_, a, b, c, rfl, _⟩ := q
  rfl
theorem QG.own (q : QG ns X k S) : Own X := q.1.2
theorem QG.mono (q : QG ns X k S) (h : k ≤ k') : QG ns X k' S := by
  obtain ⟨hn, a, b, c, h1, h2, h3, h4, h5⟩ := q
  exact ⟨hn, a, b, c, h1, h2, h3, h4, by omega⟩
theorem QG.put (q : QG ns X k S) (h : Own (X ++ Y)) : QG ns (X ++ Y) k (S ++ Y) := by
  obtain ⟨⟨hn, hX⟩, a, b, c, rfl, h1⟩ := q
  exact ⟨⟨hn, h⟩, a, b, c, rfl, h1⟩
theorem QG.app (q : QG ns X k S) {c : Cell} (hc : belowC (X.length + 1) c = true) : QG ns (X ++ [c]) k (S ++ [c]) := by
  refine q.put fun x hx => ?_
  have e : (X ++ [c]).length + 1 = X.length + 2 := by simp
  rw [e]
  rcases List.mem_append.mp hx with hx | hx
  · exact belC_le (by omega) (q.own x hx)
  · rw [List.mem_singleton.mp hx]; exact belC_le (by omega) hc
/-- the cells behind: any others -/
theorem QG.un (q : QG ns (X ++ Y) k S) (hX : Own X) : ∃ S', S = S' ++ Y ∧ QG ns X k S' := by
  obtain ⟨⟨hn, _⟩, a, b, c, rfl, h⟩ := q
  exact ⟨stc ns a b c :: X, rfl, ⟨hn, hX⟩, a, b, c, rfl, h⟩
theorem QG.below (q : QG ns X k S) : ∀ c ∈ S, belowC S.length c = true := by
  have l := q.len
  obtain ⟨⟨hn, hX⟩, a, b, c, rfl, h⟩ := q
  intro x hx
  rw [l]
  rcases List.mem_cons.mp hx with rfl | hx
  · simp [stc, belowC, belowL, Ev.below]
  · exact hX x hx
theorem QG.cut (q : QG ns X k S) (q' : QG ns X k' S') (Y : Store) : cutOk S (S' ++ Y) = true := by
  have l := q.len
  have l' := q'.len
  have hb := q'.below
  unfold cutOk
  rw [l, ← l', List.take_left', Bool.or_eq_true]
  · refine .inr (List.all_eq_true.mpr fun x hx => ?_)
    exact hb x hx
  · rfl
theorem QG.tidy (q : QG ns X k S) (q' : QG ns X k' S') {l : List D} (hl : belowL S.length l = true) : Ev.tidy true S (.ok (.ref S.length) (S' ++ [.lst l])) = .ok (.lst l) S' := by
  have l1 := q.len
  have l2 := q'.len
  unfold Ev.tidy
  have e : (S' ++ [Cell.lst l])[S.length]? = some (.lst l) := by rw [l1, ← l2]; simp
  have b : Ev.below S.length (.ref S.length) = false := by simp [Ev.below]
  have t : (S' ++ [Cell.lst l]).take S.length = S' := by rw [l1, ← l2]; simp
  simp only [q.cut q', if_true, b, e, hl, t, Bool.false_eq_true, if_false]
theorem QG.tidyV (q : QG ns X k S) (q' : QG ns X k' S') {fz : Bool} {d : D} {Y : Store} (hb : Ev.below S.length d = true) : Ev.tidy fz S (.ok d (S' ++ Y)) = .ok d S' := by
  have l1 := q.len
  have l2 := q'.len
  unfold Ev.tidy
  have t : (S' ++ Y).take S.length = S' := by rw [l1, ← l2]; simp
  simp only [q.cut q', if_true, hb, t]
theorem QG.tidy0 (q : QG ns X k S) (q' : QG ns X k' S') {fz : Bool} {d : D} (hb : Ev.below S.length d = true) : Ev.tidy fz S (.ok d S') = .ok d S' := by
  have := q.tidyV (fz := fz) (Y := []) q' hb
  rw [List.append_nil] at this
  exact this
theorem dq (q : QG ns X k S) (hk : k < 2 ^ 90) {m : Int} (hm : 0 < m) (hmw : m < 2 ^ 90) (n : Nat) :
    ∃ (r : Nat) (S' : Store), run T (n + 1) 8 [.ref 0, .int m] S = .ok (.int r) S' ∧ QG ns X (k + 1) S' ∧ (r : Int) < m := by
  obtain ⟨hn, a, b, c, rfl, h1, h2, h3, h4⟩ := q
  obtain ⟨r, a', b', e, r0, r1, h1', h2'⟩ := pick_of (T := T) (f := 8) rfl hn.1 h1 h2 h3 (by omega) hm (by omega) n X
  refine ⟨r.toNat, _, ?_, ⟨hn, a', b', c + 1, rfl, h1', h2', by omega, by omega⟩, by omega⟩
  rw [e, Int.toNat_of_nonneg r0]
theorem box (n : Nat) {ns : List Int} (hn : ns.length ≤ 63) : ∃ S, run T (n + 1) 7 [.lst (ns.map .int)] [] = .ok (.ref 0) S ∧ QG ns [] 0 S := by
  refine ⟨_, start_of (T := T) (f := 7) rfl hn n, ⟨hn, fun c hc => by simp at hc⟩, 0, 0, 0, rfl, ?_, ?_, ?_, ?_⟩ <;> decide
theorem QG.get (q : QG ns (X ++ [.lst (il L)]) k S) (hX : Own X) : S[X.length + 1]? = some (.lst (il L)) ∧ ∀ L', QG ns (X ++ [.lst (il L')]) k (S.set (X.length + 1) (.lst (il L'))) := by
  obtain ⟨S', rfl, q'⟩ := q.un hX
  have l := q'.len
  refine ⟨by rw [← l]; simp, fun L' => ?_⟩
  have : (S' ++ [Cell.lst (il L)]).set (X.length + 1) (.lst (il L')) = S' ++ [Cell.lst (il L')] := by rw [← l]; simp
  rw [this]
  exact q'.app (belowL_ints _ _)
end
/-- a comprehension that draws integers -/
theorem lc_draw {C : Cs} {ns : List Int} {i : Nat} {e : Ex} {ρ : Fr} {P : Int → Prop} (c : Nat) (hc : c ≤ 10)
    (h : ∀ (d : D) (Y : Store) (k : Nat) (S : Store), QG ns Y k S → k < 2 ^ 70 → ∃ (m : Int) (S' : Store), evE C e (setS ρ i d) S = .ok (.int m) S' ∧ QG ns Y (k + c) S' ∧ P m) (X : Store) (hX : Own X) :
    ∀ (l : List D) (acc : List Int) (k : Nat) (S : Store), QG ns (X ++ [.lst (il acc)]) k S → k + 10 * l.length < 2 ^ 60 → acc.length + l.length ≤ 100 → (∀ m ∈ acc, P m) → ∃ (L : List Int) (S' : Store),
      lcL (.nm i) (fun ρ S => evC C .no ρ S) (fun ρ S => evE C e ρ S) ρ [] (X.length + 1) l S = .ok () S' ∧ QG ns (X ++ [.lst (il L)]) (k + c * l.length) S' ∧ L.length = acc.length + l.length ∧ ∀ m ∈ L, P m
  | [], acc, k, S, q, _, _, ha => ⟨acc, S, by simp [lcL, gOk_nil], by simpa using q, rfl, ha⟩
  | d :: l, acc, k, S, q, hk, hl, ha => by
    simp only [List.length_cons] at hk hl
    obtain ⟨m, S1, e1, q1, pm⟩ := h d _ k S q (by omega)
    obtain ⟨g1, g2⟩ := q1.get hX
    have q2 := g2 (acc ++ [m])
    obtain ⟨L, S', e2, q3, hL, hP⟩ := lc_draw c hc h X hX l (acc ++ [m]) (k + c) _ q2 (by omega) (by simp; omega) (fun x hx => by
      rcases List.mem_append.mp hx with hx | hx
      · exact ha x hx
      · rw [List.mem_singleton.mp hx]; exact pm)
    have en : il (acc ++ [m]) = il acc ++ [D.int m] := by
      show (acc ++ [m]).map D.int = _
      rw [List.map_append]
      rfl
    refine ⟨L, S', ?_, ?_, by rw [hL]; simp; omega, hP⟩
    · rw [← e2]
      have lim : (il acc).length < LIM := by rw [il_len]; unfold LIM; omega
      simp only [lcL, gOk_nil, if_true, setT, evC, th_ok, e1, g1, lim, en]
    · have : k + c + c * l.length = k + c * (l.length + 1) := by rw [Nat.mul_add]; omega
      rw [this] at q3
      exact q3
theorem ev_draw {C : Cs} {ns : List Int} {own : List Nat} {it : Iter} {i : Nat} {e : Ex} {ρ : Fr} {P : Int → Prop} (c : Nat) (hc : c ≤ 10) {X : Store} {k : Nat} {S : Store} {l : List D} (q : QG ns X k S) (hw : evW C it ρ S = .ok (l, []) S) (hl : l.length ≤ 90) (hk : k + 1000 < 2 ^ 60)
    (h : ∀ (d : D) (Y : Store) (k : Nat) (S : Store), QG ns Y k S → k < 2 ^ 70 → ∃ (m : Int) (S' : Store), evE C e (setS (wipe ρ own) i d) S = .ok (.int m) S' ∧ QG ns Y (k + c) S' ∧ P m) :
    ∃ (L : List Int) (S' : Store), evE C (.lc false own (.nm i) it .no e) ρ S = .ok (.lst (il L)) S' ∧ QG ns X (k + c * l.length) S' ∧ L.length = l.length ∧ ∀ m ∈ L, P m := by
  have q1 := q.app (c := .lst (il [])) rfl
  obtain ⟨L, S1, e1, q2, h1, h2⟩ := lc_draw c hc h X q.own l [] k _ q1 (by omega) (by simpa using Nat.le_trans hl (by decide)) (fun m hm => by simp at hm)
  obtain ⟨S2, rfl, q3⟩ := q2.un q.own
  refine ⟨L, S2, ?_, q3, by simpa using h1, h2⟩
  rw [evE.eq_29, hw, th_ok]
  rw [q.len]
  have e0 : il [] = [] := rfl
  rw [e0] at e1
  rw [e1]
  simp only [Rs.nox, th_ok]
  have l1 := q.len
  have l2 := q3.len
  have e : (S2 ++ [Cell.lst (il L)])[S.length]? = some (.lst (il L)) := by rw [l1, ← l2]; simp
  have t : (S2 ++ [Cell.lst (il L)]).take S.length = S2 := by rw [l1, ← l2]; simp
  have b : belowL S.length (il L) = true := belowL_ints _ _
  simp [lcE, e, q.cut q3, b, t]
theorem order_loop (n : Nat) {ns : List Int} {X : Store} (hX : Own X) : ∀ (L : List D) (left out : List Nat) (k : Nat) (S : Store) (x4 x5 : Option D) (y1 : Option D), QG ns (X ++ [.lst (out.map fun p => D.int (p : Nat))]) k S → k + L.length < 2 ^ 60 → L.length = left.length → out.length + left.length ≤ 100 →
    ∃ (out' : List Nat) (S' : Store) (z4 z5 : Option D), forL (.nm 4) (fun ρ S => exSs (csOf T (n + 1)) b9l0 ρ S) [] L [some (.ref 0), y1, some (.lst (left.map fun p => D.int (p : Nat))), some (.ref (X.length + 1)), x4, x5] S = .nx [some (.ref 0), y1, some (.lst []), some (.ref (X.length + 1)), z4, z5] S' ∧
      QG ns (X ++ [.lst (out'.map fun p => D.int (p : Nat))]) (k + L.length) S' ∧ out'.Perm (out ++ left)
  | [], left, out, k, S, x4, x5, y1, q, hk, hl, ho => by
    have : left = [] := List.length_eq_zero_iff.mp hl.symm
    subst this
    exact ⟨out, S, x4, x5, forL_nil, q, by simp⟩
  | d :: L, left, out, k, S, x4, x5, y1, q, hk, hl, ho => by
    simp only [List.length_cons] at hk hl
    obtain ⟨r, S1, e1, q1, r1⟩ := dq q (by omega) (m := (left.length : Int)) (by omega) (by omega) n
    have hr : r < left.length := by omega
    obtain ⟨S2, rfl, q2⟩ := q1.un hX
    have q3 := q2.app (c := .lst ((out ++ [left[r]]).map fun p => D.int (p : Nat))) (ndl_below _ _)
    obtain ⟨out', S', z4, z5, e2, q4, h4⟩ := order_loop n hX L (left.take r ++ left.drop (r + 1)) (out ++ [left[r]]) (k + 1) _ (some d) (some (.int r)) y1 q3 (by omega) (by simp; omega) (by simp; omega)
    refine ⟨out', S', z4, z5, ?_, q4.mono (by simp only [List.length_cons]; omega), h4.trans ?_⟩
    · rw [← e2]
      have lim := lim_le (n := out.length) (by omega)
      have lt : out.length < LIM := by unfold LIM; omega
      have l2 := q2.len
      have g1 : (S2 ++ [Cell.lst (out.map fun p => D.int (p : Nat))])[X.length + 1]? = some (.lst (out.map fun p => D.int (p : Nat))) := by rw [← l2]; simp
      have g2 : (S2 ++ [Cell.lst (out.map fun p => D.int (p : Nat))]).set (X.length + 1) (.lst (out.map (fun p => D.int (p : Nat)) ++ [.int (left[r] : Nat)])) = S2 ++ [Cell.lst ((out ++ [left[r]]).map fun p => D.int (p : Nat))] := by rw [← l2]; simp
      have c1 := cut_lo (left.map fun p => D.int (p : Nat)) r (by simp; omega)
      have c2 := cut_hi (left.map fun p => D.int (p : Nat)) (r + 1)
      push_cast at c2
      have lm : min r left.length + (left.length - (r + 1)) ≤ LIM := by unfold LIM; omega
      exact forL_nx rfl (by
        simp (dsimp := false) (implicitDefEqProofs := false) [b9l0, e1, bmOk, bmD, g1, g2, lt, slcD, c1, c2, lstOf, mkL, hr, lm, List.map_take, List.map_drop, exSs, exS, evE.eq_1, evE.eq_2, evE.eq_3, evE.eq_4, evE.eq_5, evE.eq_6, evE.eq_7, evE.eq_8, evE.eq_9, evE.eq_10, evE.eq_11, evE.eq_12, evE.eq_13, evE.eq_14, evE.eq_15, evE.eq_16, evE.eq_17, evE.eq_18, evE.eq_19, evE.eq_20, evE.eq_21, evE.eq_22, evE.eq_23, evE.eq_24, evE.eq_25, evE.eq_26, evE.eq_27, evE.eq_28, evE.eq_31, evE.eq_32, evE.eq_33, evT, evL, evI, evC, evW, startF, setS, idxD, seqOf, ixN, binD, arI, setI, cmpD, intCmp, cmpI, truD, isAny, isD, isNo, pln, vw, eqD, biD, tidy_same, wipe, toR_nx, refIx, augV, valS])
    · have h5 := take_drop_perm left r hr
      rw [List.append_assoc]
      exact List.Perm.append_left out h5
theorem order (n : Nat) {ns : List Int} {X : Store} {k : Nat} {S : Store} (q : QG ns X k S) {m : Nat} (hm : m ≤ 100) (hk : k + m < 2 ^ 60) :
    ∃ (π : List Nat) (S' : Store), run T (n + 2) 9 [.ref 0, .int (m : Nat)] S = .ok (.lst (π.map fun p => D.int (p : Nat))) S' ∧ QG ns X (k + m) S' ∧ π.Perm (List.range m) := by
  have q1 := q.app (c := .lst (([] : List Nat).map fun p => D.int (p : Nat))) rfl
  obtain ⟨out, S', z4, z5, e, q2, hp⟩ := order_loop n q.own (upTo 0 m) (List.range m) [] k _ none none (some (.int (m : Nat))) q1 (by simp [upTo0]; omega) (by simp [upTo0]) (by simp; omega)
  have hu : (upTo 0 m).length = m := by simp [upTo0]
  rw [hu] at q2
  obtain ⟨S2, rfl, q3⟩ := q2.un q.own
  refine ⟨out, S2, ?_, q3, by simpa using hp⟩
  have l1 := q.len
  have l2 := q3.len
  have lim : (m : Int) ≤ LIM ∧ -(LIM : Int) ≤ m := by unfold LIM; omega
  have lim2 : m ≤ LIM := by unfold LIM; omega
  rw [run_def (F := ⟨2, 6, b9, true⟩) rfl rfl]
  have e0 := lc_map (C := csOf T (n + 1)) (own := [4]) (tg := .nm 4) (it := .rng (.cons (.var 1) .nil)) (e := b9e0) (ρ := [some (.ref 0), some (.int (m : Nat)), none, none, none, none]) (S := S) (l := upTo 0 m) (g := []) (fun d => d)
    (by simp (dsimp := false) (implicitDefEqProofs := false) [rngIt, lim, exSs, exS, evE.eq_1, evE.eq_2, evE.eq_3, evE.eq_4, evE.eq_5, evE.eq_6, evE.eq_7, evE.eq_8, evE.eq_9, evE.eq_10, evE.eq_11, evE.eq_12, evE.eq_13, evE.eq_14, evE.eq_15, evE.eq_16, evE.eq_17, evE.eq_18, evE.eq_19, evE.eq_20, evE.eq_21, evE.eq_22, evE.eq_23, evE.eq_24, evE.eq_25, evE.eq_26, evE.eq_27, evE.eq_28, evE.eq_31, evE.eq_32, evE.eq_33, evT, evL, evI, evC, evW, startF, setS, idxD, seqOf, ixN, binD, arI, setI, cmpD, intCmp, cmpI, truD, isAny, isD, isNo, pln, vw, eqD, biD, tidy_same, wipe, toR_nx, refIx, augV, valS]) (fun c => gOk_nil _) (fun d hd x => ⟨_, rfl, by simp (dsimp := false) (implicitDefEqProofs := false) [b9e0, wipe, exSs, exS, evE.eq_1, evE.eq_2, evE.eq_3, evE.eq_4, evE.eq_5, evE.eq_6, evE.eq_7, evE.eq_8, evE.eq_9, evE.eq_10, evE.eq_11, evE.eq_12, evE.eq_13, evE.eq_14, evE.eq_15, evE.eq_16, evE.eq_17, evE.eq_18, evE.eq_19, evE.eq_20, evE.eq_21, evE.eq_22, evE.eq_23, evE.eq_24, evE.eq_25, evE.eq_26, evE.eq_27, evE.eq_28, evE.eq_31, evE.eq_32, evE.eq_33, evT, evL, evI, evC, evW, startF, setS, idxD, seqOf, ixN, binD, arI, setI, cmpD, intCmp, cmpI, truD, isAny, isD, isNo, pln, vw, eqD, biD, tidy_same, toR_nx, refIx, augV, valS]⟩) (by rw [hu]; exact lim2) (by rw [upTo0]; simp only [List.map_id']; exact belowL_of fun d hd => by obtain ⟨i, _, rfl⟩ := List.mem_map.mp hd; rfl)
  simp only [List.map_id', upTo0] at e0
  simp only [upTo0] at e
  rw [List.map_nil] at e
  simp (dsimp := false) (implicitDefEqProofs := false) [b9, e0, mkL, l1, e, rngIt, lim, upTo0, exSs, exS, evE.eq_1, evE.eq_2, evE.eq_3, evE.eq_4, evE.eq_5, evE.eq_6, evE.eq_7, evE.eq_8, evE.eq_9, evE.eq_10, evE.eq_11, evE.eq_12, evE.eq_13, evE.eq_14, evE.eq_15, evE.eq_16, evE.eq_17, evE.eq_18, evE.eq_19, evE.eq_20, evE.eq_21, evE.eq_22, evE.eq_23, evE.eq_24, evE.eq_25, evE.eq_26, evE.eq_27, evE.eq_28, evE.eq_31, evE.eq_32, evE.eq_33, evT, evL, evI, evC, evW, startF, setS, idxD, seqOf, ixN, binD, arI, setI, cmpD, intCmp, cmpI, truD, isAny, isD, isNo, pln, vw, eqD, biD, tidy_same, wipe, toR_nx, refIx, augV, valS]
  rw [← l1]
  exact q.tidy q3 (ndl_below _ _)
theorem sum_perm {π : List Nat} {m : Nat} {l : List Nat} (h : π.Perm (List.range m)) (hl : l.length = m) : (π.map fun k => l.getD k 0).sum = l.sum := by
  have e : (List.range m).map (fun k => l.getD k 0) = l := by
    apply List.ext_getElem
    · simp [hl]
    · intro k h1 h2
      simp [h2]
  have := (h.map fun k => l.getD k 0).sum_nat
  rw [this, e]
theorem lc_mapQ {C : Cs} {own : List Nat} {tg : Tg} {it : Iter} {e : Ex} {ρ : Fr} {S0 S : Store} {l : List D} {g : Gd} (v : D → D)
    (hw : evW C it ρ S0 = .ok (l, g) S) (hg : ∀ c, gOk g (S ++ [c]) = true)
    (h : ∀ d ∈ l, ∀ x, ∃ ρ1, setT tg d (wipe ρ own) (S ++ [x]) = some ρ1 ∧ evE C e ρ1 (S ++ [x]) = .ok (v d) (S ++ [x]))
    (hl : l.length ≤ LIM) (hb : belowL S.length (l.map v) = true) : evE C (.lc false own tg it .no e) ρ S0 = .ok (.lst (l.map v)) S := by
  rw [evE.eq_29, hw, th_ok]
  have := lcL_pure (fc := fun ρ S => evC C .no ρ S) (fe := fun ρ S => evE C e ρ S) (X := S) (fun _ => true) v hg l [] (fun d hd x => by
    obtain ⟨ρ1, h1, h2⟩ := h d hd x
    exact ⟨ρ1, h1, by simp [evC], fun _ => h2⟩) (by simpa using hl)
  rw [this]
  simp only [Rs.nox, th_ok, List.nil_append, flt_true]
  exact lcE_pure hb
def getN (l : List Nat) : D → D := dN fun k => l.getD k 0
theorem perm_ev (n : Nat) {own : List Nat} {v : Nat} {e : Ex} {it : Iter} {ρ : Fr} {S0 S : Store} {π : List Nat} {m : Nat} {l : List Nat} (h : π.Perm (List.range m)) (hm : m ≤ 1000)
    (hw : evW (csOf T n) it ρ S0 = .ok (ndl π, []) S) (he : ∀ k, k < m → ∀ x, evE (csOf T n) e (setS (wipe ρ own) v (.int (k : Nat))) (S ++ [x]) = .ok (.int (l.getD k 0 : Nat)) (S ++ [x])) :
    evE (csOf T n) (.lc false own (.nm v) it .no e) ρ S0 = .ok (.lst (ndl (π.map fun k => l.getD k 0))) S := by
  have em : (ndl π).map (getN l) = ndl (π.map fun k => l.getD k 0) := mapDN _ π
  have := lc_mapQ (C := csOf T n) (own := own) (tg := .nm v) (it := it) (e := e) (ρ := ρ) (S0 := S0) (S := S) (l := ndl π) (g := []) (getN l) hw (fun c => gOk_nil _) (fun d hd x => by
    obtain ⟨k, hk, rfl⟩ := List.mem_map.mp hd
    have : k < m := List.mem_range.mp (h.mem_iff.mp hk)
    exact ⟨_, rfl, he k this x⟩) (by rw [ndl_len, h.length_eq, List.length_range]; exact lim_le hm) (by rw [em]; exact ndl_below _ _)
  rw [em] at this
  exact this

theorem take_set {l : List Nat} {i : Nat} (h : i < l.length) (v : Nat) : ((l.set i v).take (i + 1)).sum = (l.take i).sum + v := by
  have e : (l.set i v).take (i + 1) = l.take i ++ [v] := by
    rw [List.set_eq_take_append_cons_drop, if_pos h]
    have : (l.take i).length = i := by rw [List.length_take]; omega
    rw [List.take_append, this, List.take_take]
    simp
  rw [e]
  simp
theorem ndl_set (l : List Nat) (k v : Nat) : (ndl l).set k (.int (v : Nat)) = ndl (l.set k v) := by
  unfold ndl
  rw [List.map_set]
theorem QG.cell {ns : List Int} {X : Store} {k : Nat} {S : Store} {c : Cell} (q : QG ns (X ++ [c]) k S) (hX : Own X) : S[X.length + 1]? = some c ∧ ∀ c', belowC (X.length + 1) c' = true → QG ns (X ++ [c']) k (S.set (X.length + 1) c') := by
  obtain ⟨S', rfl, q'⟩ := q.un hX
  have l := q'.len
  refine ⟨by rw [← l]; simp, fun c' hc => ?_⟩
  have : (S' ++ [c]).set (X.length + 1) c' = S' ++ [c'] := by rw [← l]; simp
  rw [this]
  exact q'.app hc
end Lw
end
section
set_option maxRecDepth 100000
set_option maxHeartbeats 8000000
namespace Lw
open Ev Lg
theorem mg_loop (n : Nat) {ns : List Int} {X : Store} (hX : Own X) {m tot mo : Nat} (hm : m ≤ 4) (ho2 : mo ≤ 12) : ∀ (c i t : Nat) (out : List Nat) (k : Nat) (S : Store) (y5 y6 y7 : Option D), i + c = m → out.length = i → out.sum + t = tot → t ≤ mo * c → (∀ x ∈ out, x ≤ mo) → QG ns (X ++ [.lst (ndl out)]) k S → k + c < 2 ^ 60 →
    ∃ (out' : List Nat) (S' : Store) (z2 z5 z6 z7 : Option D), forL (.nm 5) (fun ρ S => exSs (csOf T (n + 1)) b14l0 ρ S) [] (upTo (i : Nat) c) [some (.ref 0), some (.int (m : Nat)), some (.int (t : Nat)), some (.int (mo : Nat)), some (.ref (X.length + 1)), y5, y6, y7] S = .nx [some (.ref 0), some (.int (m : Nat)), z2, some (.int (mo : Nat)), some (.ref (X.length + 1)), z5, z6, z7] S' ∧
      QG ns (X ++ [.lst (ndl out')]) (k + c) S' ∧ out'.length = m ∧ out'.sum = tot ∧ ∀ x ∈ out', x ≤ mo
  | 0, i, t, out, k, S, y5, y6, y7, h, ho, hs, ht, hb, q, hk => ⟨out, S, _, y5, y6, y7, forL_nil, q, by omega, by omega, hb⟩
  | c + 1, i, t, out, k, S, y5, y6, y7, h, ho, hs, ht, hb, q, hk => by
    obtain ⟨mc, hmc⟩ : ∃ mc, mc = mo * c := ⟨_, rfl⟩
    have hmc1 : mo * (c + 1) = mc + mo := by rw [hmc, Nat.mul_add, Nat.mul_one]
    obtain ⟨lo, hlo⟩ : ∃ lo, lo = t - mc := ⟨_, rfl⟩
    obtain ⟨hi, hhi⟩ : ∃ hi, hi = min mo t := ⟨_, rfl⟩
    have le : lo ≤ hi := by omega
    obtain ⟨a, S1, e1, q1, a1⟩ := dq q (by omega) (m := (hi : Int) - lo + 1) (by omega) (by omega) n
    have g0 := (q.cell hX).1
    obtain ⟨g1, s1⟩ := q1.cell hX
    have q2 := s1 (.lst (ndl (out ++ [lo + a]))) (ndl_below _ _)
    obtain ⟨out', S', z2, z5, z6, z7, e2, q3, r1, r2, r3⟩ := mg_loop (tot := tot) n hX hm ho2 c (i + 1) (t - (lo + a)) (out ++ [lo + a]) (k + 1) _ (some (.int (i : Nat))) (some (.int (lo : Nat))) (some (.int (hi : Nat))) (by omega) (by simp [ho]) (by rw [List.sum_append]; simp; omega) (by rw [← hmc]; omega) (fun x hx => by
      rcases List.mem_append.mp hx with hx | hx
      · exact hb x hx
      · rw [List.mem_singleton.mp hx]; omega) q2 (by omega)
    refine ⟨out', S', z2, z5, z6, z7, ?_, q3.mono (by omega), r1, r2, r3⟩
    have g2 := (q2.cell hX).1
    push_cast at e2
    rw [← e2]
    have dv : (t : Int) - ((lo : Int) + (a : Int)) = ((t - (lo + a) : Nat) : Int) := by omega
    have ll : (ndl out).length = i := by rw [ndl_len, ho]
    have lm : (ndl out).length < LIM := by rw [ll]; unfold LIM; omega
    have ea : ndl (out ++ [lo + a]) = ndl out ++ [D.int ((lo : Int) + (a : Int))] := by rw [ndl_app]; push_cast; rfl
    rw [ea] at g2 ⊢
    have mcc : (m : Int) - 1 - (i : Nat) = (c : Nat) := by omega
    have w1 : c < Wd := wd_n (by omega)
    have w2 : mo < Wd := wd_n (by omega)
    have pm : ((mo : Nat) : Int) * ((c : Nat) : Int) = (mc : Nat) := by rw [hmc]; push_cast; rfl
    have lo1 : (if 0 < (t : Int) - (mc : Nat) then (t : Int) - (mc : Nat) else 0) = (lo : Nat) := by split <;> omega
    have lo2 : (if mc < t then (t : Int) - (mc : Nat) else 0) = (lo : Nat) := by split <;> omega
    have hi1 : (if (t : Int) < mo then (t : Int) else mo) = (hi : Nat) := by split <;> omega
    have hi2 : (if t < mo then (t : Int) else mo) = (hi : Nat) := by split <;> omega
    have gi : (ndl out ++ [D.int ((lo : Int) + (a : Int))])[i]? = some (.int ((lo : Int) + (a : Int))) := by rw [← ll]; simp
    have gl : (i : Int) < (ndl out ++ [D.int ((lo : Int) + (a : Int))]).length := by simp [ll]; omega
    generalize hz : ndl out ++ [D.int ((lo : Int) + (a : Int))] = oz at *
    generalize ndl out = o1 at *
    exact forL_nx rfl (by simp (dsimp := false) (implicitDefEqProofs := false) [b14l0, mcc, w1, w2, pm, lo1, lo2, hi1, hi2, e1, bmOk, bmD, g0, g1, lm, hz, g2, gi, gl, dv, exSs, exS, evE.eq_1, evE.eq_2, evE.eq_3, evE.eq_4, evE.eq_5, evE.eq_6, evE.eq_7, evE.eq_8, evE.eq_9, evE.eq_10, evE.eq_11, evE.eq_12, evE.eq_13, evE.eq_14, evE.eq_15, evE.eq_16, evE.eq_17, evE.eq_18, evE.eq_19, evE.eq_20, evE.eq_21, evE.eq_22, evE.eq_23, evE.eq_24, evE.eq_25, evE.eq_26, evE.eq_27, evE.eq_28, evE.eq_31, evE.eq_32, evE.eq_33, evT, evL, evI, evC, evW, startF, setS, idxD, seqOf, ixN, binD, arI, setI, cmpD, intCmp, cmpI, truD, isAny, isD, isNo, pln, vw, eqD, biD, tidy_same, wipe, toR_nx, refIx, augV, valS])
theorem margin (n : Nat) {ns : List Int} {X : Store} {k : Nat} {S : Store} (q : QG ns X k S) {m t mo : Nat} (hm : m ≤ 4) (ho : mo ≤ 12) (ht : t ≤ mo * m) (hk : k + 100 < 2 ^ 60) :
    ∃ (L : List Nat) (S' : Store), run T (n + 3) 14 [.ref 0, .int (m : Nat), .int (t : Nat), .int (mo : Nat)] S = .ok (.lst (ndl L)) S' ∧ QG ns X (k + 2 * m) S' ∧ L.length = m ∧ L.sum = t ∧ ∀ x ∈ L, x ≤ mo := by
  have q1 := q.app (c := .lst (ndl [])) rfl
  obtain ⟨out, S1, z2, z5, z6, z7, e, q2, ho1, ho2, ho3⟩ := mg_loop (tot := t) (n + 1) q.own hm ho m 0 t [] k _ none none none (by omega) rfl (by simp) ht (fun x hx => by cases hx) q1 (by omega)
  obtain ⟨π, S2, e2, q3, hp⟩ := order n q2 (m := m) (by omega) (by omega)
  obtain ⟨S3, rfl, q4⟩ := q3.un q.own
  have hpl : π.length = m := by rw [hp.length_eq, List.length_range]
  refine ⟨π.map fun k => out.getD k 0, S3, ?_, q4.mono (by omega), by rw [List.length_map, hpl], by rw [sum_perm hp ho1, ho2], fun x hx => ?_⟩
  · have l1 := q.len
    have l4 := q4.len
    rw [run_def (n := n + 2) (F := ⟨4, 8, b14, true⟩) rfl rfl]
    have hw : evW (csOf T (n + 2)) (.seq (.call 9 (.cons (.var 0) (.cons (.var 1) .nil)))) [some (.ref 0), some (.int (m : Nat)), z2, some (.int (mo : Nat)), some (.ref (X.length + 1)), z5, z6, z7] S1 = .ok (ndl π, []) (S3 ++ [Cell.lst (ndl out)]) := by
      simp (dsimp := false) (implicitDefEqProofs := false) [e2, seqIt, Ev.guard, exSs, exS, evE.eq_1, evE.eq_2, evE.eq_3, evE.eq_4, evE.eq_5, evE.eq_6, evE.eq_7, evE.eq_8, evE.eq_9, evE.eq_10, evE.eq_11, evE.eq_12, evE.eq_13, evE.eq_14, evE.eq_15, evE.eq_16, evE.eq_17, evE.eq_18, evE.eq_19, evE.eq_20, evE.eq_21, evE.eq_22, evE.eq_23, evE.eq_24, evE.eq_25, evE.eq_26, evE.eq_27, evE.eq_28, evE.eq_31, evE.eq_32, evE.eq_33, evT, evL, evI, evC, evW, startF, setS, idxD, seqOf, ixN, binD, arI, setI, cmpD, intCmp, cmpI, truD, isAny, isD, isNo, pln, vw, eqD, biD, tidy_same, wipe, toR_nx, refIx, augV, valS]
      rfl
    have gc : ∀ x, ((S3 ++ [Cell.lst (ndl out)]) ++ [x])[X.length + 1]? = some (.lst (ndl out)) := fun x => by
      rw [← l4, List.append_assoc]
      simp
    have ell := perm_ev (n + 2) (own := [5]) (v := 5) (e := b14e0) (it := .seq (.call 9 (.cons (.var 0) (.cons (.var 1) .nil)))) (ρ := [some (.ref 0), some (.int (m : Nat)), z2, some (.int (mo : Nat)), some (.ref (X.length + 1)), z5, z6, z7]) (S0 := S1) (l := out) hp (by omega) hw (fun j hj x => by
      have gg := gc x
      have gj := ndl_get (l := out) (k := j) (by rw [ho1]; exact hj)
      have lj : (j : Int) < (ndl out).length := by rw [ndl_len, ho1]; omega
      generalize ndl out = dl at *
      generalize ((S3 ++ [Cell.lst dl]) ++ [x]) = SS at *
      simp (dsimp := false) (implicitDefEqProofs := false) [b14e0, gg, gj, lj, exSs, exS, evE.eq_1, evE.eq_2, evE.eq_3, evE.eq_4, evE.eq_5, evE.eq_6, evE.eq_7, evE.eq_8, evE.eq_9, evE.eq_10, evE.eq_11, evE.eq_12, evE.eq_13, evE.eq_14, evE.eq_15, evE.eq_16, evE.eq_17, evE.eq_18, evE.eq_19, evE.eq_20, evE.eq_21, evE.eq_22, evE.eq_23, evE.eq_24, evE.eq_25, evE.eq_26, evE.eq_27, evE.eq_28, evE.eq_31, evE.eq_32, evE.eq_33, evT, evL, evI, evC, evW, startF, setS, idxD, seqOf, ixN, binD, arI, setI, cmpD, intCmp, cmpI, truD, isAny, isD, isNo, pln, vw, eqD, biD, tidy_same, wipe, toR_nx, refIx, augV, valS])
    have lim : (m : Int) ≤ LIM ∧ -(LIM : Int) ≤ m := by unfold LIM; omega
    have z0 : ((0 : Nat) : Int) = 0 := rfl
    rw [z0] at e
    have en : ndl [] = [] := rfl
    rw [en] at e
    rw [show n + 1 + 1 = n + 2 from rfl] at e
    generalize hF : ndl (π.map fun k => out.getD k 0) = F at ell ⊢
    simp (dsimp := false) (implicitDefEqProofs := false) [b14, mkL, l1, rngIt, lim, e, ell, exSs, exS, evE.eq_1, evE.eq_2, evE.eq_3, evE.eq_4, evE.eq_5, evE.eq_6, evE.eq_7, evE.eq_8, evE.eq_9, evE.eq_10, evE.eq_11, evE.eq_12, evE.eq_13, evE.eq_14, evE.eq_15, evE.eq_16, evE.eq_17, evE.eq_18, evE.eq_19, evE.eq_20, evE.eq_21, evE.eq_22, evE.eq_23, evE.eq_24, evE.eq_25, evE.eq_26, evE.eq_27, evE.eq_28, evE.eq_31, evE.eq_32, evE.eq_33, evT, evL, evI, evC, evW, startF, setS, idxD, seqOf, ixN, binD, arI, setI, cmpD, intCmp, cmpI, truD, isAny, isD, isNo, pln, vw, eqD, biD, tidy_same, wipe, toR_nx, refIx, augV, valS]
    exact q.tidyV q4 (by rw [← hF]; exact ndl_below _ _)
  · obtain ⟨j, hj, rfl⟩ := List.mem_map.mp hx
    have : j < out.length := by rw [ho1]; exact List.mem_range.mp (hp.mem_iff.mp hj)
    rw [List.getD_eq_getElem?_getD, List.getElem?_eq_getElem this]
    exact ho3 _ (List.getElem_mem this)
end Lw
end
section
set_option maxRecDepth 100000
set_option maxHeartbeats 8000000
namespace Lw
open Ev Lg
abbrev pD (p : List Nat × Nat) : D := .tup [.tup (ndl p.1), .int (p.2 : Nat)]
theorem pD_below (n : Nat) (l : KN) : belowL n (l.map pD) = true := belowL_of fun d hd => by
  obtain ⟨p, _, rfl⟩ := List.mem_map.mp hd
  simp [below, belowL, ndl_below]
theorem tidy_dropL {fz : Bool} {S W : Store} {d : D} (h : below S.length d = true) : Ev.tidy fz S (.ok d (S ++ W)) = .ok d S := by
  unfold Ev.tidy
  have c0 : cutOk S (S ++ W) = true := by simp [cutOk]
  simp [c0, h]
section
variable {C : Cs}
theorem in_loop {c s : Nat} {r : List Nat} (hr : r.length ≤ 100) (y0 y1 y2 y3 y4 y9 : Option D) (Z : Store) : ∀ (k x : Nat) (acc : KN) (y10 : Option D), (k = 0 ∨ x + k ≤ min c s + 1) → acc.length + k ≤ LIM →
    ∃ z10, forL (.nm 10) (fun ρ S => exSs C b4l0 ρ S) [] (upTo (x : Nat) k) [y0, y1, y2, y3, y4, some (.int (c : Nat)), some (.ref Z.length), some (.tup (ndl r)), some (.int (s : Nat)), y9, y10] (Z ++ [.lst (acc.map pD)]) =
      .nx [y0, y1, y2, y3, y4, some (.int (c : Nat)), some (.ref Z.length), some (.tup (ndl r)), some (.int (s : Nat)), y9, z10] (Z ++ [.lst ((acc ++ (List.range k).map fun i => (r ++ [c - (x + i)], s - (x + i))).map pD)])
  | 0, x, acc, y10, _, _ => ⟨y10, by simp only [List.range_zero, List.map_nil, List.append_nil]; exact forL_nil⟩
  | k + 1, x, acc, y10, hx, hl => by
    obtain ⟨z10, e⟩ := in_loop (c := c) (s := s) hr y0 y1 y2 y3 y4 y9 Z k (x + 1) (acc ++ [(r ++ [c - x], s - x)]) (some (.int (x : Nat))) (by omega) (by simp; omega)
    refine ⟨z10, ?_⟩
    have el : (List.range (k + 1)).map (fun i => (r ++ [c - (x + i)], s - (x + i))) = (r ++ [c - x], s - x) :: (List.range k).map fun i => (r ++ [c - (x + 1 + i)], s - (x + 1 + i)) := by
      rw [List.range_succ_eq_map, List.map_cons, List.map_map, Nat.add_zero]
      congr 1
      refine List.map_congr_left fun i _ => ?_
      show (r ++ [c - (x + (i + 1))], s - (x + (i + 1))) = _
      rw [show x + (i + 1) = x + 1 + i by omega]
    rw [el]
    rw [List.append_assoc] at e
    rw [show [((r ++ [c - x], s - x) : List Nat × Nat)] ++ (List.range k).map (fun i => (r ++ [c - (x + 1 + i)], s - (x + 1 + i))) = (r ++ [c - x], s - x) :: (List.range k).map fun i => (r ++ [c - (x + 1 + i)], s - (x + 1 + i)) from rfl] at e
    rw [← e]
    have g1 : (Z ++ [Cell.lst (acc.map pD)])[Z.length]? = some (.lst (acc.map pD)) := ag0 Z _
    have s1 : (Z ++ [Cell.lst (acc.map pD)]).set Z.length (.lst (acc.map pD ++ [.tup [.tup (ndl r ++ [.int ((c - x : Nat) : Int)]), .int ((s - x : Nat) : Int)]])) = Z ++ [.lst ((acc ++ [(r ++ [c - x], s - x)]).map pD)] := by
      rw [as0, List.map_append]
      simp only [List.map_cons, List.map_nil, pD, ndl_app]
      rfl
    have lm : (acc.map pD).length < LIM := by rw [List.length_map]; omega
    have ec : (c : Int) - (x : Nat) = ((c - x : Nat) : Int) := by omega
    have es : (s : Int) - (x : Nat) = ((s - x : Nat) : Int) := by omega
    have rl : (ndl r).length + 1 ≤ LIM := by rw [ndl_len]; unfold LIM; omega
    have eu : (x : Int) + 1 = ((x + 1 : Nat) : Int) := by push_cast; rfl
    rw [upTo, eu]
    generalize acc.map pD = A at *
    generalize ndl r = R at *
    generalize (Z ++ [Cell.lst ((acc ++ [(r ++ [c - x], s - x)]).map pD)]) = Z2 at *
    generalize Z ++ [Cell.lst A] = Z1 at *
    exact forL_nx rfl (by simp (dsimp := false) (implicitDefEqProofs := false) [b4l0, bmOk, bmD, g1, lm, ec, es, rl, s1, exSs, exS, evE.eq_1, evE.eq_2, evE.eq_3, evE.eq_4, evE.eq_5, evE.eq_6, evE.eq_7, evE.eq_8, evE.eq_9, evE.eq_10, evE.eq_11, evE.eq_12, evE.eq_13, evE.eq_14, evE.eq_15, evE.eq_16, evE.eq_17, evE.eq_18, evE.eq_19, evE.eq_20, evE.eq_21, evE.eq_22, evE.eq_23, evE.eq_24, evE.eq_25, evE.eq_26, evE.eq_27, evE.eq_28, evE.eq_31, evE.eq_32, evE.eq_33, evT, evL, evI, evC, evW, startF, setS, idxD, seqOf, ixN, binD, arI, setI, cmpD, intCmp, cmpI, truD, isAny, isD, isNo, pln, vw, eqD, biD, tidy_same, wipe, toR_nx, refIx, augV, valS])
theorem mid_loop {c rm i : Nat} (hc : c ≤ 12) {rl : List D} (hrl : rl[i + 1]? = some (.int (rm : Nat))) (y0 y1 y3 : Option D) {Z : Store} {b : Nat} {cb : Cell} (hb : Z[b]? = some cb) : ∀ (l acc : KN) (y7 y8 y9 y10 : Option D), (∀ p ∈ l, p.1.length ≤ 100 ∧ p.2 < 2 ^ 60) → acc.length + 13 * l.length ≤ LIM →
    ∃ z7 z8 z9 z10, forL (.tp [7, 8]) (fun ρ S => exSs C b4l1 ρ S) [(b, cb)] (l.map pD) [y0, y1, some (.lst rl), y3, some (.int (i : Nat)), some (.int (c : Nat)), some (.ref Z.length), y7, y8, y9, y10] (Z ++ [.lst (acc.map pD)]) =
      .nx [y0, y1, some (.lst rl), y3, some (.int (i : Nat)), some (.int (c : Nat)), some (.ref Z.length), z7, z8, z9, z10] (Z ++ [.lst ((acc ++ ext c rm l).map pD)])
  | [], acc, y7, y8, y9, y10, _, _ => ⟨y7, y8, y9, y10, by
    have : ext c rm [] = [] := rfl
    rw [this, List.append_nil]
    exact fg_nil (gOk_one hb _)⟩
  | p :: l, acc, y7, y8, y9, y10, hp, hl => by
    obtain ⟨r, s⟩ := p
    simp only [List.length_cons] at hl
    have xl : (extS c rm (r, s)).length ≤ 13 := by
      unfold extS
      rw [List.length_map, List.length_range]
      omega
    obtain ⟨z7, z8, z9, z10, e⟩ := mid_loop hc hrl y0 y1 y3 hb l (acc ++ extS c rm (r, s)) (some (.tup (ndl r))) (some (.int (s : Nat))) (some (.int ((s - rm : Nat) : Int))) ((in_loop (C := C) (c := c) (s := s) (r := r) (hp (r, s) List.mem_cons_self).1 y0 y1 (some (.lst rl)) y3 (some (.int (i : Nat))) (some (.int ((s - rm : Nat) : Int))) Z (min c s + 1 - (s - rm)) (s - rm) acc y10 (by omega) (by omega)).choose) (fun q hq => hp q (List.mem_cons_of_mem _ hq)) (by rw [List.length_append]; omega)
    have e1 := (in_loop (C := C) (c := c) (s := s) (r := r) (hp (r, s) List.mem_cons_self).1 y0 y1 (some (.lst rl)) y3 (some (.int (i : Nat))) (some (.int ((s - rm : Nat) : Int))) Z (min c s + 1 - (s - rm)) (s - rm) acc y10 (by omega) (by omega)).choose_spec
    generalize (in_loop (C := C) (c := c) (s := s) (r := r) (hp (r, s) List.mem_cons_self).1 y0 y1 (some (.lst rl)) y3 (some (.int (i : Nat))) (some (.int ((s - rm : Nat) : Int))) Z (min c s + 1 - (s - rm)) (s - rm) acc y10 (by omega) (by omega)).choose = w10 at e e1
    have ex : ext c rm ((r, s) :: l) = extS c rm (r, s) ++ ext c rm l := rfl
    refine ⟨z7, z8, z9, z10, ?_⟩
    rw [ex, ← List.append_assoc, ← e]
    have e2 : (List.range (min c s + 1 - (s - rm))).map (fun i => (r ++ [c - (s - rm + i)], s - (s - rm + i))) = extS c rm (r, s) := rfl
    rw [e2] at e1
    obtain ⟨j, hj⟩ : ∃ j, j = i + 1 := ⟨_, rfl⟩
    rw [← hj] at hrl
    have ej : (i : Int) + 1 = (j : Nat) := by omega
    have lj : (j : Int) < rl.length := by
      have := (List.getElem?_eq_some_iff.mp hrl).1
      omega
    have lo1 : (if 0 < (s : Int) - (rm : Nat) then (s : Int) - (rm : Nat) else 0) = ((s - rm : Nat) : Int) := by split <;> omega
    have lo2 : (if rm < s then (s : Int) - (rm : Nat) else 0) = ((s - rm : Nat) : Int) := by split <;> omega
    have hi1 : (if (s : Int) < c then (s : Int) else c) = ((min c s : Nat) : Int) := by split <;> omega
    have hi2 : (if s < c then (s : Int) else c) = ((min c s : Nat) : Int) := by split <;> omega
    obtain ⟨u, hu⟩ : ∃ u, u = min c s := ⟨_, rfl⟩
    obtain ⟨v, hv⟩ : ∃ v, v = s - rm := ⟨_, rfl⟩
    rw [← hu, ← hv] at e1
    rw [← hu] at hi1 hi2
    rw [← hv] at lo1 lo2 ⊢
    have hs : s < 2 ^ 60 := (hp (r, s) List.mem_cons_self).2
    obtain ⟨w, hw⟩ : ∃ w, w = u + 1 := ⟨_, rfl⟩
    rw [← hw] at e1
    have eu : (u : Int) + 1 = (w : Nat) := by omega
    have rg : rngIt [.int (v : Nat), .int (w : Nat)] (Z ++ [.lst (acc.map pD)]) = .ok (upTo (v : Nat) (w - v), []) (Z ++ [.lst (acc.map pD)]) := by
      have a1 : (w : Int) - (v : Nat) ≤ LIM := by unfold LIM; omega
      have a2 : ((v : Nat) : Int).natAbs < 2 ^ 61 := by omega
      have a3 : ((w : Nat) : Int).natAbs < 2 ^ 61 := by omega
      have a4 : ((w : Int) - (v : Nat)).toNat = w - v := by omega
      simp only [rngIt, a1, a2, a3, and_self, if_true, a4]
    refine fg_nx (gOk_one hb _) rfl ?_
    generalize acc.map pD = A at *
    generalize ndl r = R at *
    generalize (Z ++ [Cell.lst ((acc ++ extS c rm (r, s)).map pD)]) = Z2 at *
    generalize Z ++ [Cell.lst A] = Z1 at *
    simp (dsimp := false) (implicitDefEqProofs := false) [b4l1, ej, hrl, lj, lo1, lo2, hi1, hi2, eu, rg, e1, exSs, exS, evE.eq_1, evE.eq_2, evE.eq_3, evE.eq_4, evE.eq_5, evE.eq_6, evE.eq_7, evE.eq_8, evE.eq_9, evE.eq_10, evE.eq_11, evE.eq_12, evE.eq_13, evE.eq_14, evE.eq_15, evE.eq_16, evE.eq_17, evE.eq_18, evE.eq_19, evE.eq_20, evE.eq_21, evE.eq_22, evE.eq_23, evE.eq_24, evE.eq_25, evE.eq_26, evE.eq_27, evE.eq_28, evE.eq_31, evE.eq_32, evE.eq_33, evT, evL, evI, evC, evW, startF, setS, idxD, seqOf, ixN, binD, arI, setI, cmpD, intCmp, cmpI, truD, isAny, isD, isNo, pln, vw, eqD, biD, tidy_same, wipe, toR_nx, refIx, augV, valS]
end
theorem ext_bd {c rm n B : Nat} {l : KN} (h : ∀ p ∈ l, p.1.length ≤ n ∧ p.2 < B) : ∀ p ∈ ext c rm l, p.1.length ≤ n + 1 ∧ p.2 < B := by
  intro p hp
  unfold ext at hp
  obtain ⟨q, hq, hp⟩ := List.mem_flatMap.mp hp
  unfold extS at hp
  obtain ⟨i, _, rfl⟩ := List.mem_map.mp hp
  obtain ⟨h1, h2⟩ := h q hq
  exact ⟨by simp; exact h1, by show q.2 - _ < B; omega⟩
section
variable {C : Cs}
theorem out_loop {rl : List D} (y0 y1 : Option D) : ∀ (cs : List Nat) (i n : Nat) (l : KN) (Z : Store) (b : Nat) (y4 y5 y6 y7 y8 y9 y10 : Option D), Z[b]? = some (.lst (l.map pD)) → (∀ j, j < cs.length → rl[i + 1 + j]? = some (.int ((cs.drop (j + 1)).sum : Nat))) → (∀ c ∈ cs, c ≤ 12) → (∀ p ∈ l, p.1.length ≤ n ∧ p.2 < 2 ^ 60) → n + cs.length ≤ 100 → l.length * 13 ^ cs.length ≤ LIM →
    ∃ (Y : Store) (b' : Nat) (z4 z5 z6 z7 z8 z9 z10 : Option D), forL (.tp [4, 5]) (fun ρ S => exSs C b4l2 ρ S) [] (enmL (i : Nat) (ndl cs)) [y0, y1, some (.lst rl), some (.ref b), y4, y5, y6, y7, y8, y9, y10] Z = .nx [y0, y1, some (.lst rl), some (.ref b'), z4, z5, z6, z7, z8, z9, z10] (Z ++ Y) ∧
      (Z ++ Y)[b']? = some (.lst ((begun cs l).map pD))
  | [], i, n, l, Z, b, y4, y5, y6, y7, y8, y9, y10, hb, _, _, _, _, _ => ⟨[], b, y4, y5, y6, y7, y8, y9, y10, by rw [List.append_nil]; exact forL_nil, by rw [List.append_nil]; exact hb⟩
  | c :: cs, i, n, l, Z, b, y4, y5, y6, y7, y8, y9, y10, hb, hr, hc, hl, hn, hz => by
    have c12 := hc c List.mem_cons_self
    have r0 := hr 0 (by simp)
    simp only [List.drop_succ_cons, List.drop_zero, Nat.add_zero] at r0
    have p13 : 1 ≤ 13 ^ cs.length := Nat.one_le_pow _ _ (by decide)
    rw [List.length_cons] at hn hz
    have e13 : l.length * 13 ^ (cs.length + 1) = 13 * l.length * 13 ^ cs.length := by rw [Nat.pow_succ, Nat.mul_comm (13 ^ cs.length) 13, ← Nat.mul_assoc, Nat.mul_comm l.length 13]
    rw [e13] at hz
    have lz : 13 * l.length ≤ LIM := Nat.le_trans (Nat.le_mul_of_pos_right _ p13) hz
    obtain ⟨z7, z8, z9, z10, e1⟩ := mid_loop (C := C) (c := c) (rm := cs.sum) (i := i) c12 r0 y0 y1 (some (.ref b)) hb l [] y7 y8 y9 y10 (fun p hp => ⟨by have := (hl p hp).1; omega, (hl p hp).2⟩) (by simpa using lz)
    have xl := ext_len (rm := cs.sum) c12 l
    have g2 : (Z ++ [Cell.lst ((ext c cs.sum l).map pD)])[Z.length]? = some (.lst ((ext c cs.sum l).map pD)) := ag0 Z _
    obtain ⟨Y, b', w4, w5, w6, w7, w8, w9, w10, e2, g3⟩ := out_loop y0 y1 cs (i + 1) (n + 1) (ext c cs.sum l) (Z ++ [Cell.lst ((ext c cs.sum l).map pD)]) Z.length (some (.int (i : Nat))) (some (.int (c : Nat))) (some (.ref Z.length)) z7 z8 z9 z10 g2
      (fun j hj => by
        have := hr (j + 1) (by simp; exact hj)
        rw [List.drop_succ_cons] at this
        rw [← this]
        congr 1
        omega) (fun x hx => hc x (List.mem_cons_of_mem _ hx)) (ext_bd hl) (by omega) (Nat.le_trans (Nat.mul_le_mul_right _ xl) hz)
    refine ⟨[Cell.lst ((ext c cs.sum l).map pD)] ++ Y, b', w4, w5, w6, w7, w8, w9, w10, ?_, ?_⟩
    · rw [← List.append_assoc, ← e2]
      have en : enmL (i : Nat) (ndl (c :: cs)) = .tup [.int (i : Nat), .int (c : Nat)] :: enmL ((i + 1 : Nat) : Int) (ndl cs) := by
        show D.tup [.int (i : Nat), .int (c : Nat)] :: enmL ((i : Int) + 1) (ndl cs) = _
        rfl
      rw [en]
      rw [List.nil_append] at e1
      have so : seqIt (.ref b) (Z ++ [.lst []]) = .ok (l.map pD, [(b, .lst (l.map pD))]) (Z ++ [.lst []]) := by
        have := gapp (W := [Cell.lst []]) hb
        simp only [seqIt, seqOf, this, Ev.guard]
      have e0 : ([] : KN).map pD = [] := rfl
      rw [e0] at e1
      generalize (ext c cs.sum l).map pD = B at *
      generalize l.map pD = A at *
      exact forL_nx rfl (by simp (dsimp := false) (implicitDefEqProofs := false) [b4l2, mkL, so, e1, exSs, exS, evE.eq_1, evE.eq_2, evE.eq_3, evE.eq_4, evE.eq_5, evE.eq_6, evE.eq_7, evE.eq_8, evE.eq_9, evE.eq_10, evE.eq_11, evE.eq_12, evE.eq_13, evE.eq_14, evE.eq_15, evE.eq_16, evE.eq_17, evE.eq_18, evE.eq_19, evE.eq_20, evE.eq_21, evE.eq_22, evE.eq_23, evE.eq_24, evE.eq_25, evE.eq_26, evE.eq_27, evE.eq_28, evE.eq_31, evE.eq_32, evE.eq_33, evT, evL, evI, evC, evW, startF, setS, idxD, seqOf, ixN, binD, arI, setI, cmpD, intCmp, cmpI, truD, isAny, isD, isNo, pln, vw, eqD, biD, tidy_same, wipe, toR_nx, refIx, augV, valS])
    · rw [← List.append_assoc]
      exact g3
end
theorem begun_len : ∀ {cs : List Nat} {l : KN}, (∀ c ∈ cs, c ≤ 12) → (begun cs l).length ≤ l.length * 13 ^ cs.length
  | [], l, _ => by simp [begun]
  | c :: cs, l, hc => by
    have h1 := begun_len (cs := cs) (l := ext c cs.sum l) fun x hx => hc x (List.mem_cons_of_mem _ hx)
    have h2 := Nat.mul_le_mul_right (13 ^ cs.length) (ext_len (rm := cs.sum) (hc c List.mem_cons_self) l)
    have e13 : l.length * 13 ^ (cs.length + 1) = 13 * l.length * 13 ^ cs.length := by rw [Nat.pow_succ, Nat.mul_comm (13 ^ cs.length) 13, ← Nat.mul_assoc, Nat.mul_comm l.length 13]
    rw [List.length_cons, e13]
    exact Nat.le_trans h1 h2
def isZ : D → Bool
  | .tup [_, .int s] => s == 0
  | _ => false
def fstD : D → D
  | .tup [r, _] => r
  | _ => .non
theorem taken_D (cs : List Nat) (a : Nat) : (((begun cs [([], a)]).map pD).filter isZ).map fstD = (taken cs a).map fun z => .tup (ndl z) := by
  unfold taken
  rw [List.filter_map, List.map_map, List.map_map]
  have : (isZ ∘ pD) = fun p : List Nat × Nat => p.2 == 0 := by
    funext p
    show ((p.2 : Int) == 0) = (p.2 == 0)
    by_cases h : p.2 = 0
    · rw [h]; rfl
    · have h1 : ((p.2 : Int) == 0) = false := beq_eq_false_iff_ne.mpr (by omega)
      have h2 : (p.2 == 0) = false := beq_eq_false_iff_ne.mpr h
      rw [h1, h2]
  rw [this]
  rfl
theorem rowsD (n : Nat) (S : Store) {cs : List Nat} (hn : cs.length ≤ 5) (hc : ∀ c ∈ cs, c ≤ 12) {a : Nat} (ha : a < 2 ^ 60) : run T (n + 1) 4 [.tup (ndl cs), .int (a : Nat)] S = .ok (.lst ((taken cs a).map fun z => .tup (ndl z))) S := by
  have er : (upTo 0 (cs.length + 1)).map (dN fun i => (cs.drop i).sum) = ndl ((List.range (cs.length + 1)).map fun i => (cs.drop i).sum) := by
    rw [upTo0]
    exact mapDN _ (List.range (cs.length + 1))
  have rooms := lc_map (C := csOf T n) (own := [4]) (tg := .nm 4) (it := .rng (.cons (.bin .add false (.bi .len false (.cons (.var 0) .nil)) (.int 1)) .nil)) (e := b4e1) (ρ := [some (.tup (ndl cs)), some (.int (a : Nat)), none, none, none, none, none, none, none, none, none]) (S := S) (l := upTo 0 (cs.length + 1)) (g := []) (dN fun i => (cs.drop i).sum)
    (by
      have lim : (cs.length : Int) + 1 ≤ LIM ∧ -(LIM : Int) ≤ (cs.length : Int) + 1 := by unfold LIM; omega
      have e1 : ((cs.length : Int) + 1).toNat = cs.length + 1 := by omega
      simp (dsimp := false) (implicitDefEqProofs := false) [rngIt, ndl_len, lim, e1, exSs, exS, evE.eq_1, evE.eq_2, evE.eq_3, evE.eq_4, evE.eq_5, evE.eq_6, evE.eq_7, evE.eq_8, evE.eq_9, evE.eq_10, evE.eq_11, evE.eq_12, evE.eq_13, evE.eq_14, evE.eq_15, evE.eq_16, evE.eq_17, evE.eq_18, evE.eq_19, evE.eq_20, evE.eq_21, evE.eq_22, evE.eq_23, evE.eq_24, evE.eq_25, evE.eq_26, evE.eq_27, evE.eq_28, evE.eq_31, evE.eq_32, evE.eq_33, evT, evL, evI, evC, evW, startF, setS, idxD, seqOf, ixN, binD, arI, setI, cmpD, intCmp, cmpI, truD, isAny, isD, isNo, pln, vw, eqD, biD, tidy_same, wipe, toR_nx, refIx, augV, valS]) (fun c => gOk_nil _) (fun d hd x => ⟨_, rfl, by
      rw [upTo0] at hd
      obtain ⟨i, _, rfl⟩ := List.mem_map.mp hd
      have c1 := cut_hi (ndl cs) i
      rw [ndl_drop] at c1
      have ai := allInt_ndl (cs.drop i)
      have sm := sumI_nd (cs.drop i)
      generalize ndl cs = R at *
      generalize ndl (cs.drop i) = R2 at *
      generalize (cs.drop i).map (fun m => ((m : Nat) : Int)) = L2 at *
      simp (dsimp := false) (implicitDefEqProofs := false) [b4e1, wipe, slcD, c1, ai, sm, dN, exSs, exS, evE.eq_1, evE.eq_2, evE.eq_3, evE.eq_4, evE.eq_5, evE.eq_6, evE.eq_7, evE.eq_8, evE.eq_9, evE.eq_10, evE.eq_11, evE.eq_12, evE.eq_13, evE.eq_14, evE.eq_15, evE.eq_16, evE.eq_17, evE.eq_18, evE.eq_19, evE.eq_20, evE.eq_21, evE.eq_22, evE.eq_23, evE.eq_24, evE.eq_25, evE.eq_26, evE.eq_27, evE.eq_28, evE.eq_31, evE.eq_32, evE.eq_33, evT, evL, evI, evC, evW, startF, setS, idxD, seqOf, ixN, binD, arI, setI, cmpD, intCmp, cmpI, truD, isAny, isD, isNo, pln, vw, eqD, biD, tidy_same, toR_nx, refIx, augV, valS]⟩) (by simp [upTo0]; exact lim_le (by omega)) (by rw [er]; exact ndl_below _ _)
  rw [er] at rooms
  obtain ⟨Y, b', z4, z5, z6, z7, z8, z9, z10, e, g⟩ := out_loop (C := csOf T n) (rl := ndl ((List.range (cs.length + 1)).map fun i => (cs.drop i).sum)) (some (.tup (ndl cs))) (some (.int (a : Nat))) cs 0 0 [([], a)] (S ++ [.lst [pD ([], a)]]) S.length none none none none none none none (ag0 S _)
    (fun j hj => by
      have h1 := ndl_get (l := (List.range (cs.length + 1)).map fun i => (cs.drop i).sum) (k := j + 1) (by rw [List.length_map, List.length_range]; omega)
      have h2 : ((List.range (cs.length + 1)).map fun i => (cs.drop i).sum).getD (j + 1) 0 = (cs.drop (j + 1)).sum := by
        rw [List.getD_eq_getElem?_getD, List.getElem?_map, List.getElem?_range (by omega)]
        rfl
      rw [h2] at h1
      rw [show 0 + 1 + j = j + 1 by omega]
      exact h1) hc (fun p hp => by rw [List.mem_singleton.mp hp]; exact ⟨Nat.le_refl _, ha⟩) (by omega) (by
      rw [List.length_singleton, Nat.one_mul]
      exact Nat.le_trans (Nat.pow_le_pow_right (by decide) hn) (by decide))
  have bl : (begun cs [([], a)]).length ≤ LIM := Nat.le_trans (begun_len hc) (by
    rw [List.length_singleton, Nat.one_mul]
    exact Nat.le_trans (Nat.pow_le_pow_right (by decide) hn) (by decide))
  have fin := lc_flt (C := csOf T n) (own := [7, 8]) (tg := .tp [7, 8]) (it := .seq (.var 3)) (c := b4f0) (e := b4e0) (ρ := [some (.tup (ndl cs)), some (.int (a : Nat)), some (.lst (ndl ((List.range (cs.length + 1)).map fun i => (cs.drop i).sum))), some (.ref b'), z4, z5, z6, z7, z8, z9, z10]) (S := S ++ [.lst [pD ([], a)]] ++ Y) (l := (begun cs [([], a)]).map pD) (g := [(b', .lst ((begun cs [([], a)]).map pD))]) isZ fstD
    (by
      generalize (begun cs [([], a)]).map pD = B at *
      generalize S ++ [Cell.lst [pD ([], a)]] ++ Y = Z at *
      simp (dsimp := false) (implicitDefEqProofs := false) [seqIt, g, Ev.guard, exSs, exS, evE.eq_1, evE.eq_2, evE.eq_3, evE.eq_4, evE.eq_5, evE.eq_6, evE.eq_7, evE.eq_8, evE.eq_9, evE.eq_10, evE.eq_11, evE.eq_12, evE.eq_13, evE.eq_14, evE.eq_15, evE.eq_16, evE.eq_17, evE.eq_18, evE.eq_19, evE.eq_20, evE.eq_21, evE.eq_22, evE.eq_23, evE.eq_24, evE.eq_25, evE.eq_26, evE.eq_27, evE.eq_28, evE.eq_31, evE.eq_32, evE.eq_33, evT, evL, evI, evC, evW, startF, setS, idxD, seqOf, ixN, binD, arI, setI, cmpD, intCmp, cmpI, truD, isAny, isD, isNo, pln, vw, eqD, biD, tidy_same, wipe, toR_nx, refIx, augV, valS]) (fun c => gOk_one g c) (fun d hd x => by
      obtain ⟨p, _, rfl⟩ := List.mem_map.mp hd
      refine ⟨_, rfl, ?_, fun _ => ?_⟩
      · have h2 : decide ((p.2 : Int) = 0) = ((p.2 : Int) == 0) := by
          by_cases h : (p.2 : Int) = 0
          · rw [h]; rfl
          · rw [decide_eq_false h, beq_eq_false_iff_ne.mpr h]
        simp (dsimp := false) (implicitDefEqProofs := false) [b4f0, isZ, wipe, exSs, exS, evE.eq_1, evE.eq_2, evE.eq_3, evE.eq_4, evE.eq_5, evE.eq_6, evE.eq_7, evE.eq_8, evE.eq_9, evE.eq_10, evE.eq_11, evE.eq_12, evE.eq_13, evE.eq_14, evE.eq_15, evE.eq_16, evE.eq_17, evE.eq_18, evE.eq_19, evE.eq_20, evE.eq_21, evE.eq_22, evE.eq_23, evE.eq_24, evE.eq_25, evE.eq_26, evE.eq_27, evE.eq_28, evE.eq_31, evE.eq_32, evE.eq_33, evT, evL, evI, evC, evW, startF, setS, idxD, seqOf, ixN, binD, arI, setI, cmpD, intCmp, cmpI, truD, isAny, isD, isNo, pln, vw, eqD, biD, tidy_same, toR_nx, refIx, augV, valS]
      · simp (dsimp := false) (implicitDefEqProofs := false) [b4e0, fstD, wipe, exSs, exS, evE.eq_1, evE.eq_2, evE.eq_3, evE.eq_4, evE.eq_5, evE.eq_6, evE.eq_7, evE.eq_8, evE.eq_9, evE.eq_10, evE.eq_11, evE.eq_12, evE.eq_13, evE.eq_14, evE.eq_15, evE.eq_16, evE.eq_17, evE.eq_18, evE.eq_19, evE.eq_20, evE.eq_21, evE.eq_22, evE.eq_23, evE.eq_24, evE.eq_25, evE.eq_26, evE.eq_27, evE.eq_28, evE.eq_31, evE.eq_32, evE.eq_33, evT, evL, evI, evC, evW, startF, setS, idxD, seqOf, ixN, binD, arI, setI, cmpD, intCmp, cmpI, truD, isAny, isD, isNo, pln, vw, eqD, biD, tidy_same, toR_nx, refIx, augV, valS]) (by rw [List.length_map]; exact bl) (by
      rw [taken_D]
      exact belowL_of fun d hd => by obtain ⟨z, _, rfl⟩ := List.mem_map.mp hd; simp only [below]; exact ndl_below _ _)
  rw [taken_D] at fin
  rw [run_def (n := n) (F := ⟨2, 11, b4, true⟩) rfl rfl]
  have e0 : ((0 : Nat) : Int) = 0 := rfl
  rw [e0] at e
  have td : tidy true S (.ok (.lst ((taken cs a).map fun z => .tup (ndl z))) (S ++ ([.lst [pD ([], a)]] ++ Y))) = .ok (.lst ((taken cs a).map fun z => .tup (ndl z))) S := tidy_dropL (by
    simp only [below]
    exact belowL_of fun d hd => by obtain ⟨z, _, rfl⟩ := List.mem_map.mp hd; simp only [below]; exact ndl_below _ _)
  rw [← List.append_assoc] at td
  have pd : pD ([], a) = .tup [.tup [], .int (a : Nat)] := rfl
  rw [pd] at e fin td
  generalize (taken cs a).map (fun z => D.tup (ndl z)) = F at *
  generalize hR : ndl ((List.range (cs.length + 1)).map fun i => (cs.drop i).sum) = R at *
  have eI : evW (csOf T n) (.enm (.var 0)) [some (.tup (ndl cs)), some (.int (a : Nat)), some (.lst R), some (.ref S.length), none, none, none, none, none, none, none] (S ++ [.lst [.tup [.tup [], .int (a : Nat)]]]) = .ok (enmL 0 (ndl cs), []) (S ++ [.lst [.tup [.tup [], .int (a : Nat)]]]) := by
    generalize ndl cs = Q at *
    simp (dsimp := false) (implicitDefEqProofs := false) [enmIt, Ev.guard, exSs, exS, evE.eq_1, evE.eq_2, evE.eq_3, evE.eq_4, evE.eq_5, evE.eq_6, evE.eq_7, evE.eq_8, evE.eq_9, evE.eq_10, evE.eq_11, evE.eq_12, evE.eq_13, evE.eq_14, evE.eq_15, evE.eq_16, evE.eq_17, evE.eq_18, evE.eq_19, evE.eq_20, evE.eq_21, evE.eq_22, evE.eq_23, evE.eq_24, evE.eq_25, evE.eq_26, evE.eq_27, evE.eq_28, evE.eq_31, evE.eq_32, evE.eq_33, evT, evL, evI, evC, evW, startF, setS, idxD, seqOf, ixN, binD, arI, setI, cmpD, intCmp, cmpI, truD, isAny, isD, isNo, pln, vw, eqD, biD, tidy_same, wipe, toR_nx, refIx, augV, valS]
  generalize hE : enmL 0 (ndl cs) = EN at *
  generalize ndl cs = Q at *
  generalize hZ : S ++ [Cell.lst [.tup [.tup [], .int (a : Nat)]]] ++ Y = ZZ at *
  simp (dsimp := false) (implicitDefEqProofs := false) [b4, rooms, mkL, enmIt, Ev.guard, hE, e, fin, exSs, exS, evE.eq_1, evE.eq_2, evE.eq_3, evE.eq_4, evE.eq_5, evE.eq_6, evE.eq_7, evE.eq_8, evE.eq_9, evE.eq_10, evE.eq_11, evE.eq_12, evE.eq_13, evE.eq_14, evE.eq_15, evE.eq_16, evE.eq_17, evE.eq_18, evE.eq_19, evE.eq_20, evE.eq_21, evE.eq_22, evE.eq_23, evE.eq_24, evE.eq_25, evE.eq_26, evE.eq_27, evE.eq_28, evE.eq_31, evE.eq_32, evE.eq_33, evT, evL, evI, evC, evW, startF, setS, idxD, seqOf, ixN, binD, arI, setI, cmpD, intCmp, cmpI, truD, isAny, isD, isNo, pln, vw, eqD, biD, tidy_same, wipe, toR_nx, refIx, augV, valS]
  exact td
end Lw
end
section
set_option maxRecDepth 100000
set_option maxHeartbeats 8000000
namespace Lw
open Ev Lg
def all13 : Nat → List (List Nat)
  | 0 => [[]]
  | w + 1 => (all13 w).flatMap fun z => (List.range 13).map fun y => y :: z
theorem box_mem : ∀ {w : Nat} {x : List Nat}, Bx w x → x ∈ all13 w
  | 0, x, h => by
    have : x = [] := List.eq_nil_of_length_eq_zero h.1
    subst this
    exact List.mem_singleton.mpr rfl
  | w + 1, [], h => by cases h.1
  | w + 1, y :: z, h => by
    refine List.mem_flatMap.mpr ⟨z, box_mem ⟨by have := h.1; rw [List.length_cons] at this; omega, fun a ha => h.2 a (List.mem_cons_of_mem _ ha)⟩, ?_⟩
    exact List.mem_map.mpr ⟨y, List.mem_range.mpr (by have := h.2 y List.mem_cons_self; omega), rfl⟩
theorem flat13 (L : List (List Nat)) : (L.flatMap fun z => (List.range 13).map fun y => y :: z).length = 13 * L.length := by
  induction L with
  | nil => rfl
  | cons a L ih =>
    rw [List.flatMap_cons, List.length_append, ih, List.length_map, List.length_range, List.length_cons]
    omega
theorem box_len : ∀ w : Nat, (all13 w).length = 13 ^ w
  | 0 => rfl
  | w + 1 => by
    show (List.flatMap _ _).length = _
    rw [flat13, box_len w, Nat.pow_succ, Nat.mul_comm]
theorem kok_len {w : Nat} (hw : w ≤ 5) {kvs : KN} (h : KOk w kvs) : (kD kvs).length < LIM := by
  have h1 := List.Nodup.length_le_of_subset h.nd fun x hx => box_mem (h.bx x hx)
  rw [box_len, List.length_map] at h1
  have h2 : 13 ^ w ≤ 13 ^ 5 := Nat.pow_le_pow_right (by decide) hw
  have h3 : 13 ^ 5 < LIM := by decide
  unfold kD
  rw [List.length_map]
  omega
theorem iN_ndl (k : List Nat) : (iN k).map D.int = ndl k := by
  unfold iN ndl
  rw [List.map_map]
  rfl
theorem tupI_iN (k : List Nat) : tupI (iN k) = .tup (ndl k) := by unfold tupI; rw [iN_ndl]
theorem lstI_ndl (z : List Nat) (S : Store) : lstI (.lst (ndl z)) S = some (iN z) := allInt_ndl z
theorem dct_at {S : Store} {i : Nat} {lk : Bool} {kvs : List (List Int × D)} (h : S[i]? = some (.dct lk kvs)) : dctOf (.ref i) S = some kvs := by simp only [dctOf, h]
theorem dget_D {S : Store} {i : Nat} {kvs : KN} (h : S[i]? = some (.dct false (kD kvs))) (k : List Nat) : dgetD (.ref i) (.tup (ndl k)) (.int 0) S = some (.int (((gN k kvs).getD 0 : Nat) : Int)) := by
  have h2 : keyD (.tup (ndl k)) = some (iN k) := allInt_ndl k
  simp only [dgetD, dct_at h, h2, gN_D]
  cases gN k kvs <;> rfl
theorem dput_D {S : Store} {i : Nat} {kvs : KN} (h : S[i]? = some (.dct false (kD kvs))) (hl : (kD kvs).length < LIM) (k : List Nat) (x : Nat) : dputD (.ref i) (iN k) (.int (x : Nat)) S = some (S.set i (.dct false (kD (pN k x kvs)))) := by
  simp only [dputD, h, hl, if_true, pN_D]
theorem rest_loop {C : Cs} {w v : Nat} (hw : w ≤ 5) (y0 y1 y3 : Option D) (Z : Store) : ∀ (zs : List (List Nat)) (kvs : KN) (y5 y6 : Option D), KOk w kvs → (∀ z ∈ zs, Bx w z) →
    ∃ z5 z6, forL (.nm 5) (fun ρ S => exSs C b5l0 ρ S) [] (zs.map fun z => .tup (ndl z)) [y0, y1, some (.ref Z.length), y3, some (.int (v : Nat)), y5, y6] (Z ++ [.dct false (kD kvs)]) =
      .nx [y0, y1, some (.ref Z.length), y3, some (.int (v : Nat)), z5, z6] (Z ++ [.dct false (kD (bumps v zs kvs))])
  | [], kvs, y5, y6, _, _ => ⟨y5, y6, forL_nil⟩
  | z :: zs, kvs, y5, y6, h, hz => by
    have h1 : KOk w (bump (srt z) v kvs) := ⟨ND_bump h.nd, P_bump h.bx (hz z List.mem_cons_self).srt⟩
    obtain ⟨z5, z6, e⟩ := rest_loop hw y0 y1 y3 Z zs (bump (srt z) v kvs) (some (.tup (ndl z))) (some (.tup (ndl (srt z)))) h1 fun x hx => hz x (List.mem_cons_of_mem _ hx)
    refine ⟨z5, z6, ?_⟩
    have eb : bumps v (z :: zs) kvs = bumps v zs (bump (srt z) v kvs) := rfl
    rw [eb, ← e]
    have g : (Z ++ [Cell.dct false (kD kvs)])[Z.length]? = some (.dct false (kD kvs)) := ag0 Z _
    have a0 : allInt (ndl z) = some (iN z) := allInt_ndl z
    have a1 : (sortI (iN z)).map D.int = ndl (srt z) := by rw [srt_D, iN_ndl]
    rw [List.map_cons]
    have a2 := lstI_ndl (srt z) (Z ++ [Cell.dct false (kD kvs)])
    have a3 := dct_at g
    have a4 := dget_D g (srt z)
    have a5 := dput_D g (kok_len hw h) (srt z) ((gN (srt z) kvs).getD 0 + v)
    have a6 : (Z ++ [Cell.dct false (kD kvs)]).set Z.length (.dct false (kD (pN (srt z) ((gN (srt z) kvs).getD 0 + v) kvs))) = Z ++ [.dct false (kD (bump (srt z) v kvs))] := as0 Z _ _
    rw [a6] at a5
    push_cast at a5
    have a7 := tupI_iN (srt z)
    generalize ((gN (srt z) kvs).getD 0) = x at *
    generalize ndl z = Q at *
    generalize ndl (srt z) = Q2 at *
    generalize iN (srt z) = Q3 at *
    generalize iN z = Q4 at *
    generalize (Z ++ [Cell.dct false (kD (bump (srt z) v kvs))]) = Z2 at *
    generalize (Z ++ [Cell.dct false (kD kvs)]) = Z1 at *
    generalize kD kvs = KK at *
    refine forL_nx rfl ?_
    simp (dsimp := false) (implicitDefEqProofs := false) [b5l0, a0, a1, mkL, a2, a3, a4, a5, a7, exSs, exS, evE.eq_1, evE.eq_2, evE.eq_3, evE.eq_4, evE.eq_5, evE.eq_6, evE.eq_7, evE.eq_8, evE.eq_9, evE.eq_10, evE.eq_11, evE.eq_12, evE.eq_13, evE.eq_14, evE.eq_15, evE.eq_16, evE.eq_17, evE.eq_18, evE.eq_19, evE.eq_20, evE.eq_21, evE.eq_22, evE.eq_23, evE.eq_24, evE.eq_25, evE.eq_26, evE.eq_27, evE.eq_28, evE.eq_31, evE.eq_32, evE.eq_33, evT, evL, evI, evC, evW, startF, setS, idxD, seqOf, ixN, binD, arI, setI, cmpD, intCmp, cmpI, truD, isAny, isD, isNo, pln, vw, eqD, biD, tidy_same, wipe, toR_nx, refIx, augV, valS]
theorem ways_loop (n : Nat) {w a : Nat} (hw : w ≤ 5) (ha : a < 2 ^ 60) (y0 : Option D) {Z : Store} {b : Nat} {cb : Cell} (hb : Z[b]? = some cb) : ∀ (L kvs : KN) (y3 y4 y5 y6 : Option D), KOk w kvs → (∀ x ∈ L.map (·.1), Bx w x) →
    ∃ z3 z4 z5 z6, forL (.tp [3, 4]) (fun ρ S => exSs (csOf T (n + 1)) b5l1 ρ S) [(b, cb)] (itmL (kD L)) [y0, some (.int (a : Nat)), some (.ref Z.length), y3, y4, y5, y6] (Z ++ [.dct false (kD kvs)]) =
      .nx [y0, some (.int (a : Nat)), some (.ref Z.length), z3, z4, z5, z6] (Z ++ [.dct false (kD (aft a L kvs))])
  | [], kvs, y3, y4, y5, y6, _, _ => ⟨y3, y4, y5, y6, fg_nil (gOk_one hb _)⟩
  | (k, v) :: L, kvs, y3, y4, y5, y6, h, hL => by
    have hk : Bx w k := hL k (by simp)
    have bz : ∀ z ∈ taken k a, Bx w z := fun z hz => by
      obtain ⟨a1, a2⟩ := taken_mem hk.2 z hz
      exact ⟨by rw [a1]; exact hk.1, a2⟩
    have h1 : KOk w (bumps v (taken k a) kvs) := (bumps_ok (f := fun _ => 0) (m := v) (fun _ _ _ => rfl) h bz).1
    obtain ⟨w5, w6, e1⟩ := rest_loop (C := csOf T (n + 1)) (v := v) hw y0 (some (.int (a : Nat))) (some (.tup (ndl k))) Z (taken k a) kvs y5 y6 h bz
    obtain ⟨z3, z4, z5, z6, e2⟩ := ways_loop n hw ha y0 hb L (bumps v (taken k a) kvs) (some (.tup (ndl k))) (some (.int (v : Nat))) w5 w6 h1 fun x hx => hL x (by simp only [List.map_cons]; exact List.mem_cons_of_mem _ hx)
    refine ⟨z3, z4, z5, z6, ?_⟩
    have ea : aft a ((k, v) :: L) kvs = aft a L (bumps v (taken k a) kvs) := rfl
    rw [ea, ← e2]
    have ei : itmL (kD ((k, v) :: L)) = .tup [.tup (ndl k), .int (v : Nat)] :: itmL (kD L) := by
      show D.tup [tupI (iN k), .int (v : Nat)] :: itmL (kD L) = _
      rw [tupI_iN]
    rw [ei]
    have e0 := rowsD n (Z ++ [.dct false (kD kvs)]) (cs := k) (by rw [hk.1]; exact hw) hk.2 ha
    refine fg_nx (gOk_one hb _) rfl ?_
    generalize (taken k a).map (fun z => D.tup (ndl z)) = Q at *
    generalize ndl k = Q2 at *
    generalize (Z ++ [Cell.dct false (kD (bumps v (taken k a) kvs))]) = Z2 at *
    generalize (Z ++ [Cell.dct false (kD kvs)]) = Z1 at *
    simp (dsimp := false) (implicitDefEqProofs := false) [b5l1, e0, seqIt, Ev.guard, e1, exSs, exS, evE.eq_1, evE.eq_2, evE.eq_3, evE.eq_4, evE.eq_5, evE.eq_6, evE.eq_7, evE.eq_8, evE.eq_9, evE.eq_10, evE.eq_11, evE.eq_12, evE.eq_13, evE.eq_14, evE.eq_15, evE.eq_16, evE.eq_17, evE.eq_18, evE.eq_19, evE.eq_20, evE.eq_21, evE.eq_22, evE.eq_23, evE.eq_24, evE.eq_25, evE.eq_26, evE.eq_27, evE.eq_28, evE.eq_31, evE.eq_32, evE.eq_33, evT, evL, evI, evC, evW, startF, setS, idxD, seqOf, ixN, binD, arI, setI, cmpD, intCmp, cmpI, truD, isAny, isD, isNo, pln, vw, eqD, biD, tidy_same, wipe, toR_nx, refIx, augV, valS]
theorem afterD (n : Nat) {w a b : Nat} (hw : w ≤ 5) (ha : a < 2 ^ 60) {ways : KN} {S : Store} (hb : S[b]? = some (.dct false (kD ways))) (hk : ∀ x ∈ ways.map (·.1), Bx w x) :
    run T (n + 2) 5 [.ref b, .int (a : Nat)] S = .ok (.ref S.length) (S ++ [.dct false (kD (aft a ways []))]) := by
  have hl : b < S.length := (List.getElem?_eq_some_iff.mp hb).1
  have hb2 : (S.set b (.dct true (kD ways)))[b]? = some (.dct true (kD ways)) := List.getElem?_set_self hl
  obtain ⟨z3, z4, z5, z6, e⟩ := ways_loop n hw ha (some (.ref b)) hb2 ways [] none none none none (KOk.nil w) hk
  rw [run_def (n := n + 1) (F := ⟨2, 7, b5, true⟩) rfl rfl]
  have o1 : opnD (.ref b) (S ++ [.dct false []]) = some (b, kD ways) := by
    have := gapp (W := [Cell.dct false []]) hb
    simp only [opnD, this]
  have s1 : (S ++ [Cell.dct false []]).set b (.dct true (kD ways)) = S.set b (.dct true (kD ways)) ++ [.dct false []] := List.set_append_left _ _ hl
  have s2 : (S.set b (.dct true (kD ways)) ++ [Cell.dct false (kD (aft a ways []))]).set b (.dct false (kD ways)) = S ++ [.dct false (kD (aft a ways []))] := by
    rw [List.set_append_left _ _ (by rw [List.length_set]; exact hl), List.set_set]
    congr 1
    have e1 := (List.getElem?_eq_some_iff.mp hb).2
    rw [← e1]
    exact List.set_getElem_self hl
  rw [List.length_set] at e
  have e0 : kD [] = [] := rfl
  rw [e0] at e
  generalize kD (aft a ways []) = K2 at *
  generalize kD ways = K1 at *
  simp (dsimp := false) (implicitDefEqProofs := false) [b5, o1, s1, e, opn, s2, exSs, exS, evE.eq_1, evE.eq_2, evE.eq_3, evE.eq_4, evE.eq_5, evE.eq_6, evE.eq_7, evE.eq_8, evE.eq_9, evE.eq_10, evE.eq_11, evE.eq_12, evE.eq_13, evE.eq_14, evE.eq_15, evE.eq_16, evE.eq_17, evE.eq_18, evE.eq_19, evE.eq_20, evE.eq_21, evE.eq_22, evE.eq_23, evE.eq_24, evE.eq_25, evE.eq_26, evE.eq_27, evE.eq_28, evE.eq_31, evE.eq_32, evE.eq_33, evT, evL, evI, evC, evW, startF, setS, idxD, seqOf, ixN, binD, arI, setI, cmpD, intCmp, cmpI, truD, isAny, isD, isNo, pln, vw, eqD, biD, tidy_same, wipe, toR_nx, refIx, augV, valS]
  simp [tidy, cutOk, below]
end Lw
end
section
set_option maxRecDepth 100000
set_option maxHeartbeats 8000000
namespace Lw
open Ev Lg
theorem isnum (n : Nat) (S : Store) (x : Nat) : run T (n + 2) 1 [.int (x : Nat)] S = .ok (.bl true) S := by
  have e : run T (n + 1) 0 [.int (x : Nat)] S = .ok (.bl true) S := by
    rw [run_def (n := n) (F := ⟨1, 1, b0, true⟩) rfl rfl]
    simp (dsimp := false) (implicitDefEqProofs := false) [b0, exSs, exS, evE.eq_1, evE.eq_2, evE.eq_3, evE.eq_4, evE.eq_5, evE.eq_6, evE.eq_7, evE.eq_8, evE.eq_9, evE.eq_10, evE.eq_11, evE.eq_12, evE.eq_13, evE.eq_14, evE.eq_15, evE.eq_16, evE.eq_17, evE.eq_18, evE.eq_19, evE.eq_20, evE.eq_21, evE.eq_22, evE.eq_23, evE.eq_24, evE.eq_25, evE.eq_26, evE.eq_27, evE.eq_28, evE.eq_31, evE.eq_32, evE.eq_33, evT, evL, evI, evC, evW, startF, setS, idxD, seqOf, ixN, binD, arI, setI, cmpD, intCmp, cmpI, truD, isAny, isD, isNo, pln, vw, eqD, biD, tidy_same, wipe, toR_nx, refIx, augV, valS]
  have h0 : (0 : Int) ≤ (x : Nat) := by omega
  rw [run_def (n := n + 1) (F := ⟨1, 1, b1, true⟩) rfl rfl]
  simp (dsimp := false) (implicitDefEqProofs := false) [b1, e, h0, exSs, exS, evE.eq_1, evE.eq_2, evE.eq_3, evE.eq_4, evE.eq_5, evE.eq_6, evE.eq_7, evE.eq_8, evE.eq_9, evE.eq_10, evE.eq_11, evE.eq_12, evE.eq_13, evE.eq_14, evE.eq_15, evE.eq_16, evE.eq_17, evE.eq_18, evE.eq_19, evE.eq_20, evE.eq_21, evE.eq_22, evE.eq_23, evE.eq_24, evE.eq_25, evE.eq_26, evE.eq_27, evE.eq_28, evE.eq_31, evE.eq_32, evE.eq_33, evT, evL, evI, evC, evW, startF, setS, idxD, seqOf, ixN, binD, arI, setI, cmpD, intCmp, cmpI, truD, isAny, isD, isNo, pln, vw, eqD, biD, tidy_same, wipe, toR_nx, refIx, augV, valS]
theorem arenum (n : Nat) (S : Store) (l : List Nat) (hl : l.length ≤ 1000) : run T (n + 3) 2 [.tup (ndl l)] S = .ok (.bl true) S := by
  have hw : evW (csOf T (n + 2)) (.seq (.var 0)) [some (.tup (ndl l)), none] S = .ok (ndl l, []) S := by
    generalize ndl l = Q
    simp (dsimp := false) (implicitDefEqProofs := false) [seqIt, Ev.guard, exSs, exS, evE.eq_1, evE.eq_2, evE.eq_3, evE.eq_4, evE.eq_5, evE.eq_6, evE.eq_7, evE.eq_8, evE.eq_9, evE.eq_10, evE.eq_11, evE.eq_12, evE.eq_13, evE.eq_14, evE.eq_15, evE.eq_16, evE.eq_17, evE.eq_18, evE.eq_19, evE.eq_20, evE.eq_21, evE.eq_22, evE.eq_23, evE.eq_24, evE.eq_25, evE.eq_26, evE.eq_27, evE.eq_28, evE.eq_31, evE.eq_32, evE.eq_33, evT, evL, evI, evC, evW, startF, setS, idxD, seqOf, ixN, binD, arI, setI, cmpD, intCmp, cmpI, truD, isAny, isD, isNo, pln, vw, eqD, biD, tidy_same, wipe, toR_nx, refIx, augV, valS]
  have lc := lc_map (C := csOf T (n + 2)) (own := [1]) (tg := .nm 1) (it := .seq (.var 0)) (e := b2e0) (ρ := [some (.tup (ndl l)), none]) (S := S) (l := ndl l) (g := []) (fun _ => .bl true) hw (fun c => gOk_nil _) (fun d hd x => ⟨_, rfl, by
      obtain ⟨i, _, rfl⟩ := List.mem_map.mp hd
      have e := isnum n (S ++ [x]) i
      generalize ndl l = Q at *
      simp (dsimp := false) (implicitDefEqProofs := false) [b2e0, wipe, e, exSs, exS, evE.eq_1, evE.eq_2, evE.eq_3, evE.eq_4, evE.eq_5, evE.eq_6, evE.eq_7, evE.eq_8, evE.eq_9, evE.eq_10, evE.eq_11, evE.eq_12, evE.eq_13, evE.eq_14, evE.eq_15, evE.eq_16, evE.eq_17, evE.eq_18, evE.eq_19, evE.eq_20, evE.eq_21, evE.eq_22, evE.eq_23, evE.eq_24, evE.eq_25, evE.eq_26, evE.eq_27, evE.eq_28, evE.eq_31, evE.eq_32, evE.eq_33, evT, evL, evI, evC, evW, startF, setS, idxD, seqOf, ixN, binD, arI, setI, cmpD, intCmp, cmpI, truD, isAny, isD, isNo, pln, vw, eqD, biD, tidy_same, toR_nx, refIx, augV, valS]⟩) (by rw [ndl_len]; exact lim_le hl) (trues_below _ _)
  have ab := allBl_true (ndl l)
  have at_ := all_true (ndl l)
  rw [run_def (n := n + 2) (F := ⟨1, 2, b2, true⟩) rfl rfl]
  generalize (ndl l).map (fun _ => D.bl true) = Q1 at *
  generalize (ndl l).map (fun _ => true) = Q2 at *
  generalize ndl l = Q at *
  simp (dsimp := false) (implicitDefEqProofs := false) [b2, lc, lstOf, ab, at_, exSs, exS, evE.eq_1, evE.eq_2, evE.eq_3, evE.eq_4, evE.eq_5, evE.eq_6, evE.eq_7, evE.eq_8, evE.eq_9, evE.eq_10, evE.eq_11, evE.eq_12, evE.eq_13, evE.eq_14, evE.eq_15, evE.eq_16, evE.eq_17, evE.eq_18, evE.eq_19, evE.eq_20, evE.eq_21, evE.eq_22, evE.eq_23, evE.eq_24, evE.eq_25, evE.eq_26, evE.eq_27, evE.eq_28, evE.eq_31, evE.eq_32, evE.eq_33, evT, evL, evI, evC, evW, startF, setS, idxD, seqOf, ixN, binD, arI, setI, cmpD, intCmp, cmpI, truD, isAny, isD, isNo, pln, vw, eqD, biD, tidy_same, wipe, toR_nx, refIx, augV, valS]
theorem asked0 (n : Nat) (S : Store) {ls cs : List Nat} (h1 : ls.length ≤ 1000) (h2 : cs.length ≤ 1000) (h : ls.sum = cs.sum) : run T (n + 4) 3 [.tup (ndl ls), .tup (ndl cs)] S = .ok .non S := by
  have e1 := arenum n S ls h1
  have e2 := arenum n S cs h2
  have a1 := allInt_ndl ls
  have a2 := allInt_ndl cs
  have s1 := sumI_nd ls
  have s2 := sumI_nd cs
  rw [h] at s1
  rw [run_def (n := n + 3) (F := ⟨2, 2, b3, true⟩) rfl rfl]
  generalize ls.map (fun m => ((m : Nat) : Int)) = L1 at *
  generalize cs.map (fun m => ((m : Nat) : Int)) = L2 at *
  generalize ndl ls = Q1 at *
  generalize ndl cs = Q2 at *
  simp (dsimp := false) (implicitDefEqProofs := false) [b3, e1, e2, a1, a2, s1, s2, exSs, exS, evE.eq_1, evE.eq_2, evE.eq_3, evE.eq_4, evE.eq_5, evE.eq_6, evE.eq_7, evE.eq_8, evE.eq_9, evE.eq_10, evE.eq_11, evE.eq_12, evE.eq_13, evE.eq_14, evE.eq_15, evE.eq_16, evE.eq_17, evE.eq_18, evE.eq_19, evE.eq_20, evE.eq_21, evE.eq_22, evE.eq_23, evE.eq_24, evE.eq_25, evE.eq_26, evE.eq_27, evE.eq_28, evE.eq_31, evE.eq_32, evE.eq_33, evT, evL, evI, evC, evW, startF, setS, idxD, seqOf, ixN, binD, arI, setI, cmpD, intCmp, cmpI, truD, isAny, isD, isNo, pln, vw, eqD, biD, tidy_same, wipe, toR_nx, refIx, augV, valS]
theorem tab_loop (n : Nat) {w : Nat} (hw : w ≤ 5) (y0 y1 : Option D) : ∀ (ls : List Nat) (ways : KN) (Z : Store) (b : Nat) (y3 : Option D), Z[b]? = some (.dct false (kD ways)) → KOk w ways → (∀ a ∈ ls, a < 2 ^ 60) →
    ∃ (Y : Store) (b' : Nat) (z3 : Option D), forL (.nm 3) (fun ρ S => exSs (csOf T (n + 2)) b6l0 ρ S) [] (ndl ls) [y0, y1, some (.ref b), y3] Z = .nx [y0, y1, some (.ref b'), z3] (Z ++ Y) ∧ (Z ++ Y)[b']? = some (.dct false (kD (rows ls ways)))
  | [], ways, Z, b, y3, hb, _, _ => ⟨[], b, y3, by rw [List.append_nil]; exact forL_nil, by rw [List.append_nil]; exact hb⟩
  | a :: ls, ways, Z, b, y3, hb, hk, ha => by
    have e0 := afterD n hw (ha a List.mem_cons_self) hb hk.bx
    have k1 := (aft_ok (a := a) (f := fun _ => 0) (ways := ways) (fun _ _ _ => rfl) (KOk.nil w) hk.bx).1
    obtain ⟨Y, b', z3, e1, g1⟩ := tab_loop n hw y0 y1 ls (aft a ways []) (Z ++ [.dct false (kD (aft a ways []))]) Z.length (some (.int (a : Nat))) (ag0 Z _) k1 fun x hx => ha x (List.mem_cons_of_mem _ hx)
    refine ⟨[.dct false (kD (aft a ways []))] ++ Y, b', z3, ?_, by rw [← List.append_assoc]; exact g1⟩
    rw [← List.append_assoc, ← e1]
    have en : ndl (a :: ls) = .int (a : Nat) :: ndl ls := rfl
    rw [en]
    generalize (Z ++ [Cell.dct false (kD (aft a ways []))]) = Z2 at *
    refine forL_nx rfl ?_
    simp (dsimp := false) (implicitDefEqProofs := false) [b6l0, e0, exSs, exS, evE.eq_1, evE.eq_2, evE.eq_3, evE.eq_4, evE.eq_5, evE.eq_6, evE.eq_7, evE.eq_8, evE.eq_9, evE.eq_10, evE.eq_11, evE.eq_12, evE.eq_13, evE.eq_14, evE.eq_15, evE.eq_16, evE.eq_17, evE.eq_18, evE.eq_19, evE.eq_20, evE.eq_21, evE.eq_22, evE.eq_23, evE.eq_24, evE.eq_25, evE.eq_26, evE.eq_27, evE.eq_28, evE.eq_31, evE.eq_32, evE.eq_33, evT, evL, evI, evC, evW, startF, setS, idxD, seqOf, ixN, binD, arI, setI, cmpD, intCmp, cmpI, truD, isAny, isD, isNo, pln, vw, eqD, biD, tidy_same, wipe, toR_nx, refIx, augV, valS]
theorem rep0 (k : Nat) : (List.replicate k [D.int 0]).flatten = ndl (List.replicate k 0) := by
  induction k with
  | zero => rfl
  | succ k ih =>
    rw [List.replicate_succ, List.flatten_cons, ih, List.replicate_succ]
    rfl
theorem tabD (n : Nat) (S : Store) {ls cs : List Nat} (hc0 : 1 ≤ cs.length) (hc5 : cs.length ≤ 5) (hc : ∀ c ∈ cs, c ≤ 12) (hl : ls.length ≤ 1000) (ha : ∀ a ∈ ls, a < 2 ^ 60) (h : ls.sum = cs.sum) :
    run T (n + 5) 6 [.tup (ndl ls), .tup (ndl cs)] S = .ok (.int (cnt ls cs : Nat)) S := by
  have e0 := asked0 n S hl (show cs.length ≤ 1000 by omega) h
  have k0 : KOk cs.length [(srt cs, 1)] := ⟨by simp [ND], fun x hx => by
    simp only [List.map_cons, List.map_nil, List.mem_singleton] at hx
    subst hx
    exact Bx.srt ⟨rfl, hc⟩⟩
  obtain ⟨Y, b', z3, e1, g1⟩ := tab_loop (n + 2) hc5 (some (.tup (ndl ls))) (some (.tup (ndl cs))) ls [(srt cs, 1)] (S ++ [.dct false (kD [(srt cs, 1)])]) S.length none (ag0 S _) k0 ha
  rw [run_def (n := n + 4) (F := ⟨2, 4, b6, true⟩) rfl rfl]
  have a0 : allInt (ndl cs) = some (iN cs) := allInt_ndl cs
  have a1 : (sortI (iN cs)).map D.int = ndl (srt cs) := by rw [srt_D, iN_ndl]
  have a2 := fun S => lstI_ndl (srt cs) S
  have a3 : dnewD S.length (iN (srt cs)) (.int 1) (S ++ [.dct false []]) = .ok (.ref S.length) (S ++ [.dct false (kD [(srt cs, 1)])]) := by
    have g : (S ++ [Cell.dct false []])[S.length]? = some (.dct false []) := ag0 S _
    simp only [dnewD, g]
    rw [as0]
    rfl
  have a4 := dct_at g1
  have a5 := dget_D g1 (List.replicate cs.length 0)
  rw [rows_cnt hc] at a5
  have a6 := rep0 cs.length
  have l1 : (ndl cs).length = cs.length := ndl_len cs
  have c1 : (1 : Int) ≤ (cs.length : Nat) ∧ ((cs.length : Nat) : Int) ≤ 1000 := by omega
  have c2 : cs.length ≤ 1000 := by omega
  have tn : ((cs.length : Nat) : Int).toNat = cs.length := by omega
  have td : tidy true S (.ok (.int (cnt ls cs : Nat)) (S ++ ([.dct false (kD [(srt cs, 1)])] ++ Y))) = .ok (.int (cnt ls cs : Nat)) S := tidy_dropL rfl
  rw [← List.append_assoc] at td
  generalize hm : cs.length = m at *
  generalize S ++ [Cell.dct false (kD [(srt cs, 1)])] ++ Y = ZZ at *
  generalize S ++ [Cell.dct false (kD [(srt cs, 1)])] = Z1 at *
  generalize ndl (List.replicate m 0) = Q0 at *
  generalize ndl (srt cs) = Q3 at *
  generalize iN (srt cs) = L3 at *
  generalize ndl ls = Q1 at *
  generalize ndl cs = Q2 at *
  generalize iN cs = L2 at *
  simp (dsimp := false) (implicitDefEqProofs := false) [b6, e0, a0, a1, mkL, a2, a3, seqIt, Ev.guard, e1, a4, l1, c1, c2, hc0, tn, a6, a5, exSs, exS, evE.eq_1, evE.eq_2, evE.eq_3, evE.eq_4, evE.eq_5, evE.eq_6, evE.eq_7, evE.eq_8, evE.eq_9, evE.eq_10, evE.eq_11, evE.eq_12, evE.eq_13, evE.eq_14, evE.eq_15, evE.eq_16, evE.eq_17, evE.eq_18, evE.eq_19, evE.eq_20, evE.eq_21, evE.eq_22, evE.eq_23, evE.eq_24, evE.eq_25, evE.eq_26, evE.eq_27, evE.eq_28, evE.eq_31, evE.eq_32, evE.eq_33, evT, evL, evI, evC, evW, startF, setS, idxD, seqOf, ixN, binD, arI, setI, cmpD, intCmp, cmpI, truD, isAny, isD, isNo, pln, vw, eqD, biD, tidy_same, wipe, toR_nx, refIx, augV, valS]
  exact td
end Lw
end
section
set_option maxRecDepth 100000
set_option maxHeartbeats 8000000
namespace Lw
open Ev Lg
theorem bin_le : ∀ n k : Nat, bin n k ≤ 2 ^ n
  | 0, 0 => by decide
  | 0, k + 1 => by show 0 ≤ _; omega
  | n + 1, 0 => by rw [bin_zero]; exact Nat.one_le_two_pow
  | n + 1, k + 1 => by
    have h1 := bin_le n k
    have h2 := bin_le n (k + 1)
    show bin n k + bin n (k + 1) ≤ _
    rw [Nat.pow_succ]
    omega
theorem ch_loop (C : Cs) (S : Store) {n w : Nat} (hn : n ≤ 100) : ∀ (m k : Nat) (y3 : Option D), k + m ≤ n → ∃ z3, forL (.nm 3) (fun ρ S => exSs C b11l0 ρ S) [] (upTo (k : Nat) m) [some (.int (n : Nat)), some (.int (w : Nat)), some (.int (bin n k : Nat)), y3] S = .nx [some (.int (n : Nat)), some (.int (w : Nat)), some (.int (bin n (k + m) : Nat)), z3] S
  | 0, k, y3, _ => ⟨y3, forL_nil⟩
  | m + 1, k, y3, h => by
    obtain ⟨z3, e⟩ := ch_loop C S (n := n) (w := w) hn m (k + 1) (some (.int (k : Nat))) (by omega)
    refine ⟨z3, ?_⟩
    rw [show k + (m + 1) = k + 1 + m by omega, ← e]
    have ek : (k : Int) + 1 = ((k + 1 : Nat) : Int) := by push_cast; rfl
    rw [upTo, ek]
    have b1 := bin_le n k
    have b2 : 2 ^ n ≤ 2 ^ 100 := Nat.pow_le_pow_right (by decide) hn
    have w1 : bin n k < Wd := wd_n (Nat.lt_of_le_of_lt (Nat.le_trans b1 b2) (by decide))
    have dn : (n : Int) - (k : Nat) = ((n - k : Nat) : Int) := by omega
    have w2 : n - k < Wd := wd_n (by omega)
    have st : ((bin n k : Nat) : Int) * ((n - k : Nat) : Int) / ((k + 1 : Nat) : Int) = ((bin n (k + 1) : Nat) : Int) := by
      have := bin_step n k
      have e2 : ((bin n k : Nat) : Int) * ((n - k : Nat) : Int) = ((bin n (k + 1) * (k + 1) : Nat) : Int) := by rw [this]; push_cast; rfl
      rw [e2]
      push_cast
      exact Int.mul_ediv_cancel _ (by omega)
    obtain ⟨j, hj⟩ : ∃ j, j = k + 1 := ⟨_, rfl⟩
    rw [← hj] at st ek ⊢
    have w3 : j < Wd := wd_n (by omega)
    have j0 : 0 < j := by omega
    generalize bin n k = x at *
    generalize bin n j = y at *
    generalize n - k = d at *
    refine forL_nx rfl ?_
    simp (dsimp := false) (implicitDefEqProofs := false) [b11l0, dn, w1, w2, ek, w3, j0, st, exSs, exS, evE.eq_1, evE.eq_2, evE.eq_3, evE.eq_4, evE.eq_5, evE.eq_6, evE.eq_7, evE.eq_8, evE.eq_9, evE.eq_10, evE.eq_11, evE.eq_12, evE.eq_13, evE.eq_14, evE.eq_15, evE.eq_16, evE.eq_17, evE.eq_18, evE.eq_19, evE.eq_20, evE.eq_21, evE.eq_22, evE.eq_23, evE.eq_24, evE.eq_25, evE.eq_26, evE.eq_27, evE.eq_28, evE.eq_31, evE.eq_32, evE.eq_33, evT, evL, evI, evC, evW, startF, setS, idxD, seqOf, ixN, binD, arI, setI, cmpD, intCmp, cmpI, truD, isAny, isD, isNo, pln, vw, eqD, biD, tidy_same, wipe, toR_nx, refIx, augV, valS]
theorem choices (n : Nat) (S : Store) {a w : Nat} (ha : a ≤ 100) (hw : w ≤ 100) : run T (n + 1) 11 [.int (a : Nat), .int (w : Nat)] S = .ok (.int (bin a w : Nat)) S := by
  rw [run_def (n := n) (F := ⟨2, 4, b11, true⟩) rfl rfl]
  by_cases h : a < w
  · rw [bin_big h]
    simp (dsimp := false) (implicitDefEqProofs := false) [b11, h, exSs, exS, evE.eq_1, evE.eq_2, evE.eq_3, evE.eq_4, evE.eq_5, evE.eq_6, evE.eq_7, evE.eq_8, evE.eq_9, evE.eq_10, evE.eq_11, evE.eq_12, evE.eq_13, evE.eq_14, evE.eq_15, evE.eq_16, evE.eq_17, evE.eq_18, evE.eq_19, evE.eq_20, evE.eq_21, evE.eq_22, evE.eq_23, evE.eq_24, evE.eq_25, evE.eq_26, evE.eq_27, evE.eq_28, evE.eq_31, evE.eq_32, evE.eq_33, evT, evL, evI, evC, evW, startF, setS, idxD, seqOf, ixN, binD, arI, setI, cmpD, intCmp, cmpI, truD, isAny, isD, isNo, pln, vw, eqD, biD, tidy_same, wipe, toR_nx, refIx, augV, valS]
  · obtain ⟨z3, e⟩ := ch_loop (csOf T n) S (n := a) (w := w) ha w 0 none (by omega)
    rw [bin_zero, Nat.zero_add] at e
    have lim : (w : Int) ≤ LIM ∧ -(LIM : Int) ≤ w := by unfold LIM; omega
    have e0 : ((0 : Nat) : Int) = 0 := rfl
    have e1 : ((1 : Nat) : Int) = 1 := rfl
    rw [e0, e1] at e
    simp (dsimp := false) (implicitDefEqProofs := false) [b11, h, rngIt, lim, e, exSs, exS, evE.eq_1, evE.eq_2, evE.eq_3, evE.eq_4, evE.eq_5, evE.eq_6, evE.eq_7, evE.eq_8, evE.eq_9, evE.eq_10, evE.eq_11, evE.eq_12, evE.eq_13, evE.eq_14, evE.eq_15, evE.eq_16, evE.eq_17, evE.eq_18, evE.eq_19, evE.eq_20, evE.eq_21, evE.eq_22, evE.eq_23, evE.eq_24, evE.eq_25, evE.eq_26, evE.eq_27, evE.eq_28, evE.eq_31, evE.eq_32, evE.eq_33, evT, evL, evI, evC, evW, startF, setS, idxD, seqOf, ixN, binD, arI, setI, cmpD, intCmp, cmpI, truD, isAny, isD, isNo, pln, vw, eqD, biD, tidy_same, wipe, toR_nx, refIx, augV, valS]
theorem sgc_one : ∀ (cs : List Nat) (c : Nat), (sgc cs c).natAbs = 1
  | [], _ => rfl
  | _ :: cs, c => by
    have := sgc_one cs (c / 2)
    unfold sgc
    split
    · rw [Int.natAbs_neg]; exact this
    · exact this
theorem bits_loop (C : Cs) (S : Store) (y0 y2 y3 : Option D) {cs : List Nat} {code : Nat} : ∀ (m j : Nat) (r g : Int) (y7 : Option D), j + m = cs.length → ∃ z7, forL (.nm 7) (fun ρ S => exSs C b12l0 ρ S) [] (upTo (j : Nat) m) [y0, some (.lst (ndl cs)), y2, y3, some (.int (code : Nat)), some (.int r), some (.int g), y7] S =
      .nx [y0, some (.lst (ndl cs)), y2, y3, some (.int (code : Nat)), some (.int (r - shc (cs.drop j) (code / 2 ^ j))), some (.int (g * sgc (cs.drop j) (code / 2 ^ j))), z7] S
  | 0, j, r, g, y7, h => ⟨y7, by
    rw [List.drop_eq_nil_of_le (by omega)]
    simp only [shc, sgc, Int.sub_zero, Int.mul_one]
    exact forL_nil⟩
  | m + 1, j, r, g, y7, h => by
    have hj : j < cs.length := by omega
    have hd : cs.drop j = cs[j] :: cs.drop (j + 1) := List.drop_eq_getElem_cons hj
    have gj := ndl_get hj
    rw [show cs.getD j 0 = cs[j] by rw [List.getD_eq_getElem?_getD, List.getElem?_eq_getElem hj]; rfl] at gj
    have lj : (j : Int) < (ndl cs).length := by rw [ndl_len]; omega
    have bt := bit_nat code j
    have tb : code.testBit j = decide (code / 2 ^ j % 2 = 1) := Nat.testBit_eq_decide_div_mod_eq
    have dd : code / 2 ^ (j + 1) = code / 2 ^ j / 2 := by rw [Nat.pow_succ, Nat.div_div_eq_div_mul]
    have ej : (j : Int) + 1 = ((j + 1 : Nat) : Int) := by push_cast; rfl
    rw [upTo, ej, hd]
    by_cases hb : code / 2 ^ j % 2 = 1
    · obtain ⟨z7, e⟩ := bits_loop C S y0 y2 y3 (cs := cs) (code := code) m (j + 1) (r - (cs[j] : Nat) - 1) (0 - g) (some (.int (j : Nat))) (by omega)
      refine ⟨z7, ?_⟩
      rw [tb, decide_eq_true hb, if_pos rfl] at bt
      simp only [shc, sgc, hb, if_true]
      rw [dd] at e
      have e1 : r - (cs[j] : Nat) - 1 - shc (cs.drop (j + 1)) (code / 2 ^ j / 2) = r - (((cs[j] : Nat) : Int) + 1 + shc (cs.drop (j + 1)) (code / 2 ^ j / 2)) := by omega
      have e2 : (0 - g) * sgc (cs.drop (j + 1)) (code / 2 ^ j / 2) = g * -sgc (cs.drop (j + 1)) (code / 2 ^ j / 2) := by rw [Int.zero_sub, Int.neg_mul, Int.mul_neg]
      rw [e1, e2] at e
      rw [← e]
      generalize ndl cs = Q at *
      refine forL_nx rfl ?_
      simp (dsimp := false) (implicitDefEqProofs := false) [b12l0, bt, gj, lj, exSs, exS, evE.eq_1, evE.eq_2, evE.eq_3, evE.eq_4, evE.eq_5, evE.eq_6, evE.eq_7, evE.eq_8, evE.eq_9, evE.eq_10, evE.eq_11, evE.eq_12, evE.eq_13, evE.eq_14, evE.eq_15, evE.eq_16, evE.eq_17, evE.eq_18, evE.eq_19, evE.eq_20, evE.eq_21, evE.eq_22, evE.eq_23, evE.eq_24, evE.eq_25, evE.eq_26, evE.eq_27, evE.eq_28, evE.eq_31, evE.eq_32, evE.eq_33, evT, evL, evI, evC, evW, startF, setS, idxD, seqOf, ixN, binD, arI, setI, cmpD, intCmp, cmpI, truD, isAny, isD, isNo, pln, vw, eqD, biD, tidy_same, wipe, toR_nx, refIx, augV, valS]
    · obtain ⟨z7, e⟩ := bits_loop C S y0 y2 y3 (cs := cs) (code := code) m (j + 1) r g (some (.int (j : Nat))) (by omega)
      refine ⟨z7, ?_⟩
      rw [tb, decide_eq_false hb, if_neg (by simp)] at bt
      simp only [shc, sgc, hb, if_false]
      rw [dd] at e
      rw [Int.zero_add, ← e]
      generalize ndl cs = Q at *
      refine forL_nx rfl ?_
      simp (dsimp := false) (implicitDefEqProofs := false) [b12l0, bt, exSs, exS, evE.eq_1, evE.eq_2, evE.eq_3, evE.eq_4, evE.eq_5, evE.eq_6, evE.eq_7, evE.eq_8, evE.eq_9, evE.eq_10, evE.eq_11, evE.eq_12, evE.eq_13, evE.eq_14, evE.eq_15, evE.eq_16, evE.eq_17, evE.eq_18, evE.eq_19, evE.eq_20, evE.eq_21, evE.eq_22, evE.eq_23, evE.eq_24, evE.eq_25, evE.eq_26, evE.eq_27, evE.eq_28, evE.eq_31, evE.eq_32, evE.eq_33, evT, evL, evI, evC, evW, startF, setS, idxD, seqOf, ixN, binD, arI, setI, cmpD, intCmp, cmpI, truD, isAny, isD, isNo, pln, vw, eqD, biD, tidy_same, wipe, toR_nx, refIx, augV, valS]
def tm (cs : List Nat) (n : Nat) (a : Int) (code : Nat) : Int := sgc cs code * (if 0 ≤ a - shc cs code then ((bin ((a - shc cs code).toNat + n) n : Nat) : Int) else 0)
theorem shc_nn : ∀ (cs : List Nat) (c : Nat), 0 ≤ shc cs c
  | [], _ => Int.le_refl 0
  | x :: cs, c => by
    have := shc_nn cs (c / 2)
    unfold shc
    split <;> omega
theorem sg_sh (f : Nat → Int) : ∀ (m i : Nat), sg (m + 1) (fun q => f (i + q)) = f i + sg m fun q => f (i + 1 + q)
  | 0, i => by simp [sg]
  | m + 1, i => by
    show sg (m + 1) (fun q => f (i + q)) + f (i + (m + 1)) = f i + (sg m (fun q => f (i + 1 + q)) + f (i + 1 + m))
    rw [sg_sh f m i, show i + (m + 1) = i + 1 + m by omega]
    omega
theorem two_step (n : Nat) (S : Store) {cs : List Nat} {w a : Nat} (hw : cs.length = w + 1) (hw5 : w ≤ 4) (ha : a ≤ 90) (code : Nat) (o : Int) (y5 y6 y7 : Option D) : ∃ z5 z6 z7, exSs (csOf T (n + 1)) b12l1 [some (.int (a : Nat)), some (.lst (ndl cs)), some (.int ((w + 1 : Nat) : Int)), some (.int o), some (.int (code : Nat)), y5, y6, y7] S =
      .nx [some (.int (a : Nat)), some (.lst (ndl cs)), some (.int ((w + 1 : Nat) : Int)), some (.int (o + tm cs w a code)), some (.int (code : Nat)), z5, z6, z7] S := by
  obtain ⟨z7, e⟩ := bits_loop (csOf T (n + 1)) S (some (.int (a : Nat))) (some (.int ((w + 1 : Nat) : Int))) (some (.int o)) (cs := cs) (code := code) (w + 1) 0 (a : Nat) 1 y7 (by omega)
  have d0 : cs.drop 0 = cs := rfl
  rw [d0, Nat.pow_zero, Nat.div_one, Int.one_mul] at e
  obtain ⟨r, hr⟩ : ∃ r, r = (a : Int) - shc cs code := ⟨_, rfl⟩
  have nn := shc_nn cs code
  have s1 := sgc_one cs code
  refine ⟨some (.int r), some (.int (sgc cs code)), z7, ?_⟩
  have e00 : ((0 : Nat) : Int) = 0 := rfl
  rw [e00, ← hr] at e
  obtain ⟨W, hW⟩ : ∃ W, W = w + 1 := ⟨_, rfl⟩
  have lim : (W : Int) ≤ LIM ∧ -(LIM : Int) ≤ W := by unfold LIM; omega
  rw [← hW] at e ⊢
  unfold tm
  rw [← hr]
  by_cases h0 : 0 ≤ r
  · rw [if_pos h0]
    obtain ⟨x, hx⟩ : ∃ x : Nat, r = x := ⟨r.toNat, by omega⟩
    subst hx
    rw [Int.toNat_natCast]
    obtain ⟨y, hy⟩ : ∃ y, y = x + w := ⟨_, rfl⟩
    have ch := choices n S (a := y) (w := w) (by omega) (by omega)
    rw [← hy]
    have c1 : (x : Int) + (W : Nat) - 1 = (y : Nat) := by omega
    have c2 : (W : Int) - 1 = (w : Nat) := by omega
    have b1 := bin_le y w
    have b2 : 2 ^ y ≤ 2 ^ 100 := Nat.pow_le_pow_right (by decide) (by omega)
    have w1 : bin y w < Wd := wd_n (Nat.lt_of_le_of_lt (Nat.le_trans b1 b2) (by decide))
    have w2 : (sgc cs code).natAbs < Wd := wd_n (by omega)
    generalize sgc cs code = g at *
    generalize bin y w = v at *
    generalize ndl cs = Q at *
    clear hr nn
    simp (dsimp := false) (implicitDefEqProofs := false) [b12l1, rngIt, lim, e, c1, c2, ch, w1, w2, exSs, exS, evE.eq_1, evE.eq_2, evE.eq_3, evE.eq_4, evE.eq_5, evE.eq_6, evE.eq_7, evE.eq_8, evE.eq_9, evE.eq_10, evE.eq_11, evE.eq_12, evE.eq_13, evE.eq_14, evE.eq_15, evE.eq_16, evE.eq_17, evE.eq_18, evE.eq_19, evE.eq_20, evE.eq_21, evE.eq_22, evE.eq_23, evE.eq_24, evE.eq_25, evE.eq_26, evE.eq_27, evE.eq_28, evE.eq_31, evE.eq_32, evE.eq_33, evT, evL, evI, evC, evW, startF, setS, idxD, seqOf, ixN, binD, arI, setI, cmpD, intCmp, cmpI, truD, isAny, isD, isNo, pln, vw, eqD, biD, tidy_same, wipe, toR_nx, refIx, augV, valS]
  · rw [if_neg h0, Int.mul_zero, Int.add_zero]
    generalize sgc cs code = g at *
    generalize ndl cs = Q at *
    clear hr nn
    simp (dsimp := false) (implicitDefEqProofs := false) [b12l1, rngIt, lim, e, h0, exSs, exS, evE.eq_1, evE.eq_2, evE.eq_3, evE.eq_4, evE.eq_5, evE.eq_6, evE.eq_7, evE.eq_8, evE.eq_9, evE.eq_10, evE.eq_11, evE.eq_12, evE.eq_13, evE.eq_14, evE.eq_15, evE.eq_16, evE.eq_17, evE.eq_18, evE.eq_19, evE.eq_20, evE.eq_21, evE.eq_22, evE.eq_23, evE.eq_24, evE.eq_25, evE.eq_26, evE.eq_27, evE.eq_28, evE.eq_31, evE.eq_32, evE.eq_33, evT, evL, evI, evC, evW, startF, setS, idxD, seqOf, ixN, binD, arI, setI, cmpD, intCmp, cmpI, truD, isAny, isD, isNo, pln, vw, eqD, biD, tidy_same, wipe, toR_nx, refIx, augV, valS]
theorem two_loop (n : Nat) (S : Store) {cs : List Nat} {w a : Nat} (hw : cs.length = w + 1) (hw5 : w ≤ 4) (ha : a ≤ 90) : ∀ (m i : Nat) (o : Int) (y4 y5 y6 y7 : Option D), ∃ z4 z5 z6 z7, forL (.nm 4) (fun ρ S => exSs (csOf T (n + 1)) b12l1 ρ S) [] (upTo (i : Nat) m) [some (.int (a : Nat)), some (.lst (ndl cs)), some (.int ((w + 1 : Nat) : Int)), some (.int o), y4, y5, y6, y7] S =
      .nx [some (.int (a : Nat)), some (.lst (ndl cs)), some (.int ((w + 1 : Nat) : Int)), some (.int (o + sg m fun q => tm cs w a (i + q))), z4, z5, z6, z7] S
  | 0, i, o, y4, y5, y6, y7 => ⟨y4, y5, y6, y7, by
    show forL _ _ _ [] _ _ = .nx [_, _, _, some (.int (o + 0)), _, _, _, _] S
    rw [Int.add_zero]
    exact forL_nil⟩
  | m + 1, i, o, y4, y5, y6, y7 => by
    obtain ⟨x5, x6, x7, e1⟩ := two_step n S hw hw5 ha i o y5 y6 y7
    obtain ⟨z4, z5, z6, z7, e2⟩ := two_loop n S hw hw5 ha m (i + 1) (o + tm cs w a i) (some (.int (i : Nat))) x5 x6 x7
    refine ⟨z4, z5, z6, z7, ?_⟩
    rw [sg_sh (tm cs w a) m i, ← Int.add_assoc, ← e2]
    have ei : (i : Int) + 1 = ((i + 1 : Nat) : Int) := by push_cast; rfl
    rw [upTo, ei]
    exact forL_nx rfl e1
theorem two (n : Nat) (S : Store) {cs : List Nat} {a : Nat} (h1 : 1 ≤ cs.length) (h5 : cs.length ≤ 5) (ha : a ≤ 90) : run T (n + 2) 12 [.int (a : Nat), .lst (ndl cs)] S = .ok (.int (N cs a : Nat)) S := by
  obtain ⟨w, hw⟩ : ∃ w, cs.length = w + 1 := ⟨cs.length - 1, by omega⟩
  obtain ⟨z4, z5, z6, z7, e⟩ := two_loop n S hw (by omega) ha (2 ^ (w + 1)) 0 0 none none none none
  have lt := law_two cs w a hw
  have e1 : (0 : Int) + sg (2 ^ (w + 1)) (fun q => tm cs w a (0 + q)) = ((N cs a : Nat) : Int) := by
    rw [← lt, hw, Int.zero_add]
    refine sg_congr fun i _ => ?_
    rw [Nat.zero_add]
    rfl
  rw [e1] at e
  rw [run_def (n := n + 1) (F := ⟨2, 8, b12, true⟩) rfl rfl]
  have l1 : (ndl cs).length = w + 1 := by rw [ndl_len, hw]
  obtain ⟨W, hW⟩ : ∃ W, W = w + 1 := ⟨_, rfl⟩
  rw [← hW] at e l1
  have w1 : (W : Int) ≤ 1000000 := by omega
  have e00 : ((0 : Nat) : Int) = 0 := rfl
  rw [e00] at e
  have p1 : (2 : Int) ^ W ≤ LIM ∧ -(LIM : Int) ≤ 2 ^ W := by
    have : W = 1 ∨ W = 2 ∨ W = 3 ∨ W = 4 ∨ W = 5 := by omega
    rcases this with h | h | h | h | h <;> rw [h] <;> decide
  have p2 : ((2 : Int) ^ W).toNat = 2 ^ W := by
    have : (2 : Int) ^ W = ((2 ^ W : Nat) : Int) := by push_cast; rfl
    rw [this, Int.toNat_natCast]
  generalize ndl cs = Q at *
  simp (dsimp := false) (implicitDefEqProofs := false) [b12, l1, w1, rngIt, p1, p2, e, exSs, exS, evE.eq_1, evE.eq_2, evE.eq_3, evE.eq_4, evE.eq_5, evE.eq_6, evE.eq_7, evE.eq_8, evE.eq_9, evE.eq_10, evE.eq_11, evE.eq_12, evE.eq_13, evE.eq_14, evE.eq_15, evE.eq_16, evE.eq_17, evE.eq_18, evE.eq_19, evE.eq_20, evE.eq_21, evE.eq_22, evE.eq_23, evE.eq_24, evE.eq_25, evE.eq_26, evE.eq_27, evE.eq_28, evE.eq_31, evE.eq_32, evE.eq_33, evT, evL, evI, evC, evW, startF, setS, idxD, seqOf, ixN, binD, arI, setI, cmpD, intCmp, cmpI, truD, isAny, isD, isNo, pln, vw, eqD, biD, tidy_same, wipe, toR_nx, refIx, augV, valS]
end Lw
end
section
set_option maxRecDepth 100000
set_option maxHeartbeats 8000000
namespace Lw
open Ev Lg
section
variable {C : Cs}
theorem in3 {s : Nat} {r : List Nat} (hr : r.length ≤ 100) (y0 y1 y2 y3 y4 y7 : Option D) (Z : Store) : ∀ (k x : Nat) (acc : KN) (y8 : Option D), (k = 0 ∨ x + k ≤ s + 1) → acc.length + k ≤ LIM →
    ∃ z8, forL (.nm 8) (fun ρ S => exSs C b13l1 ρ S) [] (upTo (x : Nat) k) [y0, y1, y2, y3, y4, some (pD (r, s)), some (.ref Z.length), y7, y8] (Z ++ [.lst (acc.map pD)]) =
      .nx [y0, y1, y2, y3, y4, some (pD (r, s)), some (.ref Z.length), y7, z8] (Z ++ [.lst ((acc ++ (List.range k).map fun i => (r ++ [x + i], s - (x + i))).map pD)])
  | 0, x, acc, y8, _, _ => ⟨y8, by simp only [List.range_zero, List.map_nil, List.append_nil]; exact forL_nil⟩
  | k + 1, x, acc, y8, hx, hl => by
    obtain ⟨z8, e⟩ := in3 (s := s) hr y0 y1 y2 y3 y4 y7 Z k (x + 1) (acc ++ [(r ++ [x], s - x)]) (some (.int (x : Nat))) (by omega) (by simp; omega)
    refine ⟨z8, ?_⟩
    have el : (List.range (k + 1)).map (fun i => (r ++ [x + i], s - (x + i))) = (r ++ [x], s - x) :: (List.range k).map fun i => (r ++ [x + 1 + i], s - (x + 1 + i)) := by
      rw [List.range_succ_eq_map, List.map_cons, List.map_map, Nat.add_zero]
      congr 1
      refine List.map_congr_left fun i _ => ?_
      show (r ++ [x + (i + 1)], s - (x + (i + 1))) = _
      rw [show x + (i + 1) = x + 1 + i by omega]
    rw [el]
    rw [List.append_assoc] at e
    rw [show [((r ++ [x], s - x) : List Nat × Nat)] ++ (List.range k).map (fun i => (r ++ [x + 1 + i], s - (x + 1 + i))) = (r ++ [x], s - x) :: (List.range k).map fun i => (r ++ [x + 1 + i], s - (x + 1 + i)) from rfl] at e
    rw [← e]
    have g1 : (Z ++ [Cell.lst (acc.map pD)])[Z.length]? = some (.lst (acc.map pD)) := ag0 Z _
    have s1 : (Z ++ [Cell.lst (acc.map pD)]).set Z.length (.lst (acc.map pD ++ [.tup [.tup (ndl r ++ [.int (x : Nat)]), .int ((s - x : Nat) : Int)]])) = Z ++ [.lst ((acc ++ [(r ++ [x], s - x)]).map pD)] := by
      rw [as0, List.map_append]
      simp only [List.map_cons, List.map_nil, pD, ndl_app]
      rfl
    have lm : (acc.map pD).length < LIM := by rw [List.length_map]; omega
    have es : (s : Int) - (x : Nat) = ((s - x : Nat) : Int) := by omega
    have rl : (ndl r).length + 1 ≤ LIM := by rw [ndl_len]; unfold LIM; omega
    have eu : (x : Int) + 1 = ((x + 1 : Nat) : Int) := by push_cast; rfl
    rw [upTo, eu]
    generalize acc.map pD = A at *
    generalize (Z ++ [Cell.lst ((acc ++ [(r ++ [x], s - x)]).map pD)]) = Z2 at *
    show forL _ _ _ _ [y0, y1, y2, y3, y4, some (.tup [.tup (ndl r), .int (s : Nat)]), some (.ref Z.length), y7, y8] _ = forL _ _ _ _ [y0, y1, y2, y3, y4, some (.tup [.tup (ndl r), .int (s : Nat)]), some (.ref Z.length), y7, some (.int (x : Nat))] _
    generalize ndl r = R at *
    generalize Z ++ [Cell.lst A] = Z1 at *
    exact forL_nx rfl (by simp (dsimp := false) (implicitDefEqProofs := false) [b13l1, bmOk, bmD, g1, lm, es, rl, s1, exSs, exS, evE.eq_1, evE.eq_2, evE.eq_3, evE.eq_4, evE.eq_5, evE.eq_6, evE.eq_7, evE.eq_8, evE.eq_9, evE.eq_10, evE.eq_11, evE.eq_12, evE.eq_13, evE.eq_14, evE.eq_15, evE.eq_16, evE.eq_17, evE.eq_18, evE.eq_19, evE.eq_20, evE.eq_21, evE.eq_22, evE.eq_23, evE.eq_24, evE.eq_25, evE.eq_26, evE.eq_27, evE.eq_28, evE.eq_31, evE.eq_32, evE.eq_33, evT, evL, evI, evC, evW, startF, setS, idxD, seqOf, ixN, binD, arI, setI, cmpD, intCmp, cmpI, truD, isAny, isD, isNo, pln, vw, eqD, biD, tidy_same, wipe, toR_nx, refIx, augV, valS])
theorem mid3 {c j m : Nat} (hc : c ≤ 12) {cl : List D} (hcl : cl.length = m + 1) (hj : j ≤ m) (hrl : cl[j]? = some (.int (c : Nat))) (y0 y2 y4 : Option D) {Z : Store} {b : Nat} {cb : Cell} (hb : Z[b]? = some cb) : ∀ (l acc : KN) (y5 y7 y8 : Option D), (∀ p ∈ l, p.1.length ≤ 100 ∧ p.2 < 2 ^ 60) → acc.length + 13 * l.length ≤ LIM →
    ∃ z5 z7 z8, forL (.nm 5) (fun ρ S => exSs C b13l2 ρ S) [(b, cb)] (l.map pD) [y0, some (.lst cl), y2, some (.int (j : Nat)), y4, y5, some (.ref Z.length), y7, y8] (Z ++ [.lst (acc.map pD)]) =
      .nx [y0, some (.lst cl), y2, some (.int (j : Nat)), y4, z5, some (.ref Z.length), z7, z8] (Z ++ [.lst ((acc ++ x3 (decide (j = m)) c l).map pD)])
  | [], acc, y5, y7, y8, _, _ => ⟨y5, y7, y8, by
    have : x3 (decide (j = m)) c [] = [] := rfl
    rw [this, List.append_nil]
    exact fg_nil (gOk_one hb _)⟩
  | p :: l, acc, y5, y7, y8, hp, hl => by
    obtain ⟨r, s⟩ := p
    simp only [List.length_cons] at hl
    obtain ⟨h1, hs⟩ := hp (r, s) List.mem_cons_self
    have xl := x3S_len (last := decide (j = m)) hc (r, s)
    obtain ⟨v, hv⟩ : ∃ v, v = lo3 (decide (j = m)) s := ⟨_, rfl⟩
    have vs : v ≤ s := by rw [hv]; unfold lo3; split <;> omega
    obtain ⟨u, hu⟩ : ∃ u, u = min s c := ⟨_, rfl⟩
    obtain ⟨w8, e1⟩ := in3 (C := C) (s := s) (r := r) h1 y0 (some (.lst cl)) y2 (some (.int (j : Nat))) y4 (some (.int (v : Nat))) Z (u + 1 - v) v acc y8 (by omega) (by omega)
    obtain ⟨z5, z7, z8, e⟩ := mid3 hc hcl hj hrl y0 y2 y4 hb l (acc ++ x3S (decide (j = m)) c (r, s)) (some (pD (r, s))) (some (.int (v : Nat))) w8 (fun q hq => hp q (List.mem_cons_of_mem _ hq)) (by rw [List.length_append]; omega)
    have ex : x3 (decide (j = m)) c ((r, s) :: l) = x3S (decide (j = m)) c (r, s) ++ x3 (decide (j = m)) c l := rfl
    refine ⟨z5, z7, z8, ?_⟩
    rw [ex, ← List.append_assoc, ← e]
    have e2 : (List.range (u + 1 - v)).map (fun i => (r ++ [v + i], s - (v + i))) = x3S (decide (j = m)) c (r, s) := by rw [hu, hv]; rfl
    rw [e2] at e1
    have lj : (j : Int) < cl.length := by omega
    have hi1 : (if (c : Int) < s then (c : Int) else s) = (u : Nat) := by split <;> omega
    have hi2 : (if c < s then (c : Int) else s) = (u : Nat) := by split <;> omega
    obtain ⟨w, hw⟩ : ∃ w, w = u + 1 := ⟨_, rfl⟩
    rw [← hw] at e1
    have eu : (u : Int) + 1 = (w : Nat) := by omega
    have rg : rngIt [.int (v : Nat), .int (w : Nat)] (Z ++ [.lst (acc.map pD)]) = .ok (upTo (v : Nat) (w - v), []) (Z ++ [.lst (acc.map pD)]) := by
      have a1 : (w : Int) - (v : Nat) ≤ LIM := by unfold LIM; omega
      have a2 : ((v : Nat) : Int).natAbs < 2 ^ 61 := by omega
      have a3 : ((w : Nat) : Int).natAbs < 2 ^ 61 := by omega
      have a4 : ((w : Int) - (v : Nat)).toNat = w - v := by omega
      simp only [rngIt, a1, a2, a3, and_self, if_true, a4]
    obtain ⟨M, hM⟩ : ∃ M, M = m + 1 := ⟨_, rfl⟩
    have em : (M : Int) - 1 = (m : Nat) := by omega
    have hcM : cl.length = M := by omega
    have ljM : (j : Int) < (M : Nat) := by omega
    rw [List.map_cons]
    refine fg_nx (gOk_one hb _) rfl ?_
    generalize acc.map pD = A at *
    generalize (Z ++ [Cell.lst ((acc ++ x3S (decide (j = m)) c (r, s)).map pD)]) = Z2 at *
    have ppd : pD (r, s) = .tup [.tup (ndl r), .int (s : Nat)] := rfl
    rw [ppd] at e1 ⊢
    generalize ndl r = R at *
    generalize Z ++ [Cell.lst A] = Z1 at *
    by_cases hjm : j = m
    · have hvs : v = s := by rw [hv, hjm]; unfold lo3; simp
      subst hjm
      subst hvs
      simp (dsimp := false) (implicitDefEqProofs := false) [b13l2, ljM, hcM, em, hrl, hi1, hi2, eu, rg, e1, exSs, exS, evE.eq_1, evE.eq_2, evE.eq_3, evE.eq_4, evE.eq_5, evE.eq_6, evE.eq_7, evE.eq_8, evE.eq_9, evE.eq_10, evE.eq_11, evE.eq_12, evE.eq_13, evE.eq_14, evE.eq_15, evE.eq_16, evE.eq_17, evE.eq_18, evE.eq_19, evE.eq_20, evE.eq_21, evE.eq_22, evE.eq_23, evE.eq_24, evE.eq_25, evE.eq_26, evE.eq_27, evE.eq_28, evE.eq_31, evE.eq_32, evE.eq_33, evT, evL, evI, evC, evW, startF, setS, idxD, seqOf, ixN, binD, arI, setI, cmpD, intCmp, cmpI, truD, isAny, isD, isNo, pln, vw, eqD, biD, tidy_same, wipe, toR_nx, refIx, augV, valS]
    · have hv0 : v = 0 := by rw [hv]; unfold lo3; simp [hjm]
      have jm : ¬ ((j : Int) = (m : Nat)) := by omega
      have jm2 : ((j : Int) == (m : Nat)) = false := beq_eq_false_iff_ne.mpr jm
      subst hv0
      have z0 : ((0 : Nat) : Int) = 0 := rfl
      rw [z0, Nat.sub_zero] at rg e1
      simp (dsimp := false) (implicitDefEqProofs := false) [b13l2, ljM, hcM, em, hrl, hi1, hi2, eu, rg, e1, jm, hjm, exSs, exS, evE.eq_1, evE.eq_2, evE.eq_3, evE.eq_4, evE.eq_5, evE.eq_6, evE.eq_7, evE.eq_8, evE.eq_9, evE.eq_10, evE.eq_11, evE.eq_12, evE.eq_13, evE.eq_14, evE.eq_15, evE.eq_16, evE.eq_17, evE.eq_18, evE.eq_19, evE.eq_20, evE.eq_21, evE.eq_22, evE.eq_23, evE.eq_24, evE.eq_25, evE.eq_26, evE.eq_27, evE.eq_28, evE.eq_31, evE.eq_32, evE.eq_33, evT, evL, evI, evC, evW, startF, setS, idxD, seqOf, ixN, binD, arI, setI, cmpD, intCmp, cmpI, truD, isAny, isD, isNo, pln, vw, eqD, biD, tidy_same, wipe, toR_nx, refIx, augV, valS]
theorem out3 {m : Nat} {cl : List D} (hcl : cl.length = m + 1) (y0 y4 : Option D) : ∀ (cs : List Nat) (i n : Nat) (l : KN) (Z : Store) (b : Nat) (y3 y5 y6 y7 y8 : Option D), i + cs.length = m + 1 → Z[b]? = some (.lst (l.map pD)) → (∀ j, j < cs.length → cl[i + j]? = some (.int (cs.getD j 0 : Nat))) → (∀ c ∈ cs, c ≤ 12) → (∀ p ∈ l, p.1.length = n ∧ p.2 < 2 ^ 60) → n + cs.length ≤ 100 → l.length * 13 ^ cs.length ≤ LIM →
    ∃ (Y : Store) (b' : Nat) (z3 z5 z6 z7 z8 : Option D), forL (.nm 3) (fun ρ S => exSs C b13l3 ρ S) [] (upTo (i : Nat) cs.length) [y0, some (.lst cl), some (.ref b), y3, y4, y5, y6, y7, y8] Z = .nx [y0, some (.lst cl), some (.ref b'), z3, y4, z5, z6, z7, z8] (Z ++ Y) ∧
      (Z ++ Y)[b']? = some (.lst ((vec cs l).map pD))
  | [], i, n, l, Z, b, y3, y5, y6, y7, y8, _, hb, _, _, _, _, _ => ⟨[], b, y3, y5, y6, y7, y8, by rw [List.append_nil]; exact forL_nil, by rw [List.append_nil]; exact hb⟩
  | c :: cs, i, n, l, Z, b, y3, y5, y6, y7, y8, hi, hb, hr, hc, hl, hn, hz => by
    have c12 := hc c List.mem_cons_self
    have r0 := hr 0 (by simp)
    rw [Nat.add_zero] at r0
    have p13 : 1 ≤ 13 ^ cs.length := Nat.one_le_pow _ _ (by decide)
    rw [List.length_cons] at hn hz hi
    have e13 : l.length * 13 ^ (cs.length + 1) = 13 * l.length * 13 ^ cs.length := by rw [Nat.pow_succ, Nat.mul_comm (13 ^ cs.length) 13, ← Nat.mul_assoc, Nat.mul_comm l.length 13]
    rw [e13] at hz
    have lz : 13 * l.length ≤ LIM := Nat.le_trans (Nat.le_mul_of_pos_right _ p13) hz
    obtain ⟨z5, z7, z8, e1⟩ := mid3 (C := C) (c := c) (j := i) (m := m) c12 hcl (by omega) r0 y0 (some (.ref b)) y4 hb l [] y5 y7 y8 (fun p hp => ⟨by have := (hl p hp).1; omega, (hl p hp).2⟩) (by simpa using lz)
    have ee : decide (i = m) = cs.isEmpty := by
      cases cs with
      | nil => simp at hi; simp [hi]
      | cons d cs => simp at hi; simp; omega
    rw [ee, List.nil_append] at e1
    have xl := x3_len (last := cs.isEmpty) c12 l
    have g2 : (Z ++ [Cell.lst ((x3 cs.isEmpty c l).map pD)])[Z.length]? = some (.lst ((x3 cs.isEmpty c l).map pD)) := ag0 Z _
    obtain ⟨Y, b', w3, w5, w6, w7, w8, e2, g3⟩ := out3 hcl y0 y4 cs (i + 1) (n + 1) (x3 cs.isEmpty c l) (Z ++ [Cell.lst ((x3 cs.isEmpty c l).map pD)]) Z.length (some (.int (i : Nat))) z5 (some (.ref Z.length)) z7 z8 (by omega) g2
      (fun j hj => by
        have := hr (j + 1) (by simp; exact hj)
        rw [show i + 1 + j = i + (j + 1) by omega]
        exact this) (fun x hx => hc x (List.mem_cons_of_mem _ hx)) (x3_mem hl) (by omega) (Nat.le_trans (Nat.mul_le_mul_right _ xl) hz)
    refine ⟨[Cell.lst ((x3 cs.isEmpty c l).map pD)] ++ Y, b', w3, w5, w6, w7, w8, ?_, by rw [← List.append_assoc]; exact g3⟩
    rw [← List.append_assoc, ← e2]
    have so : seqIt (.ref b) (Z ++ [.lst []]) = .ok (l.map pD, [(b, .lst (l.map pD))]) (Z ++ [.lst []]) := by
      have := gapp (W := [Cell.lst []]) hb
      simp only [seqIt, seqOf, this, Ev.guard]
    have e0 : ([] : KN).map pD = [] := rfl
    rw [e0] at e1
    have eu : (i : Int) + 1 = ((i + 1 : Nat) : Int) := by push_cast; rfl
    rw [List.length_cons, upTo, eu]
    generalize (x3 cs.isEmpty c l).map pD = B at *
    generalize l.map pD = A at *
    exact forL_nx rfl (by simp (dsimp := false) (implicitDefEqProofs := false) [b13l3, mkL, so, e1, exSs, exS, evE.eq_1, evE.eq_2, evE.eq_3, evE.eq_4, evE.eq_5, evE.eq_6, evE.eq_7, evE.eq_8, evE.eq_9, evE.eq_10, evE.eq_11, evE.eq_12, evE.eq_13, evE.eq_14, evE.eq_15, evE.eq_16, evE.eq_17, evE.eq_18, evE.eq_19, evE.eq_20, evE.eq_21, evE.eq_22, evE.eq_23, evE.eq_24, evE.eq_25, evE.eq_26, evE.eq_27, evE.eq_28, evE.eq_31, evE.eq_32, evE.eq_33, evT, evL, evI, evC, evW, startF, setS, idxD, seqOf, ixN, binD, arI, setI, cmpD, intCmp, cmpI, truD, isAny, isD, isNo, pln, vw, eqD, biD, tidy_same, wipe, toR_nx, refIx, augV, valS])
end
theorem sub_ev (n : Nat) (S : Store) {cs r : List Nat} (hl : r.length = cs.length) (hc : cs.length ≤ 100) (h : Le r cs) (s : Nat) (y0 y2 y3 y4 y6 y7 y8 : Option D) :
    evE (csOf T n) (.lc false [3] (.nm 3) (.rng (.cons (.bi .len false (.cons (.var 1) .nil)) .nil)) .no b13e0) [y0, some (.lst (ndl cs)), y2, y3, y4, some (pD (r, s)), y6, y7, y8] S = .ok (.lst (ndl (zw cs r))) S := by
  have er : (upTo 0 cs.length).map (dN fun j => cs.getD j 0 - r.getD j 0) = ndl (zw cs r) := by
    rw [upTo0, ← zw_get hl]
    exact mapDN _ (List.range cs.length)
  have l1 : (ndl cs).length = cs.length := ndl_len cs
  have := lc_map (C := csOf T n) (own := [3]) (tg := .nm 3) (it := .rng (.cons (.bi .len false (.cons (.var 1) .nil)) .nil)) (e := b13e0) (ρ := [y0, some (.lst (ndl cs)), y2, y3, y4, some (pD (r, s)), y6, y7, y8]) (S := S) (l := upTo 0 cs.length) (g := []) (dN fun j => cs.getD j 0 - r.getD j 0)
    (by
      have lim : (cs.length : Int) ≤ LIM ∧ -(LIM : Int) ≤ (cs.length : Int) := by unfold LIM; omega
      generalize ndl cs = Q at *
      generalize cs.length = m at *
      simp (dsimp := false) (implicitDefEqProofs := false) [rngIt, l1, lim, exSs, exS, evE.eq_1, evE.eq_2, evE.eq_3, evE.eq_4, evE.eq_5, evE.eq_6, evE.eq_7, evE.eq_8, evE.eq_9, evE.eq_10, evE.eq_11, evE.eq_12, evE.eq_13, evE.eq_14, evE.eq_15, evE.eq_16, evE.eq_17, evE.eq_18, evE.eq_19, evE.eq_20, evE.eq_21, evE.eq_22, evE.eq_23, evE.eq_24, evE.eq_25, evE.eq_26, evE.eq_27, evE.eq_28, evE.eq_31, evE.eq_32, evE.eq_33, evT, evL, evI, evC, evW, startF, setS, idxD, seqOf, ixN, binD, arI, setI, cmpD, intCmp, cmpI, truD, isAny, isD, isNo, pln, vw, eqD, biD, tidy_same, wipe, toR_nx, refIx, augV, valS]) (fun c => gOk_nil _) (fun d hd x => ⟨_, rfl, by
      rw [upTo0] at hd
      obtain ⟨j, hj, rfl⟩ := List.mem_map.mp hd
      have hj := List.mem_range.mp hj
      have g1 := ndl_get hj
      have g2 := ndl_get (l := r) (k := j) (by omega)
      have le : r.getD j 0 ≤ cs.getD j 0 := by
        obtain ⟨c, e1, e2⟩ := h j (r.getD j 0) (by rw [List.getD_eq_getElem?_getD, List.getElem?_eq_getElem (by omega)]; rfl)
        rw [List.getD_eq_getElem?_getD (l := cs), e1]
        exact e2
      have l2 : (ndl r).length = cs.length := by rw [ndl_len, hl]
      obtain ⟨u, hu⟩ : ∃ u, u = cs.getD j 0 := ⟨_, rfl⟩
      obtain ⟨v, hv⟩ : ∃ v, v = r.getD j 0 := ⟨_, rfl⟩
      have ed : dN (fun j => cs.getD j 0 - r.getD j 0) (.int (j : Nat)) = .int ((u - v : Nat) : Int) := by
        rw [hu, hv]
        rfl
      have sb : (u : Int) - (v : Nat) = ((u - v : Nat) : Int) := by omega
      rw [ed]
      rw [← hu] at g1
      rw [← hv] at g2
      have lj : (j : Int) < (cs.length : Nat) := by omega
      have pp : pD (r, s) = .tup [.tup (ndl r), .int (s : Nat)] := rfl
      rw [pp]
      generalize ndl cs = Q at *
      generalize ndl r = Q2 at *
      generalize cs.length = m at *
      simp (dsimp := false) (implicitDefEqProofs := false) [b13e0, wipe, l1, l2, lj, g1, g2, sb, exSs, exS, evE.eq_1, evE.eq_2, evE.eq_3, evE.eq_4, evE.eq_5, evE.eq_6, evE.eq_7, evE.eq_8, evE.eq_9, evE.eq_10, evE.eq_11, evE.eq_12, evE.eq_13, evE.eq_14, evE.eq_15, evE.eq_16, evE.eq_17, evE.eq_18, evE.eq_19, evE.eq_20, evE.eq_21, evE.eq_22, evE.eq_23, evE.eq_24, evE.eq_25, evE.eq_26, evE.eq_27, evE.eq_28, evE.eq_31, evE.eq_32, evE.eq_33, evT, evL, evI, evC, evW, startF, setS, idxD, seqOf, ixN, binD, arI, setI, cmpD, intCmp, cmpI, truD, isAny, isD, isNo, pln, vw, eqD, biD, tidy_same, toR_nx, refIx, augV, valS]⟩) (by simp [upTo0]; exact lim_le (by omega)) (by rw [er]; exact ndl_below _ _)
  rw [er] at this
  exact this
theorem tot_loop (n : Nat) (S : Store) {cs : List Nat} (h1 : 1 ≤ cs.length) (h5 : cs.length ≤ 5) {d0 d2 : D} {a : Nat} (ha : a ≤ 90) {b : Nat} {cb : Cell} (hb : S[b]? = some cb) (y2 y3 y6 y7 y8 : Option D) : ∀ (l : KN) (t : Nat) (y5 : Option D), (∀ p ∈ l, p.1.length = cs.length ∧ Le p.1 cs) →
    ∃ z5, forL (.nm 5) (fun ρ S => exSs (csOf T (n + 2)) b13l0 ρ S) [(b, cb)] (l.map pD) [some (.lst [d0, .int (a : Nat), d2]), some (.lst (ndl cs)), y2, y3, some (.int (t : Nat)), y5, y6, y7, y8] S =
      .nx [some (.lst [d0, .int (a : Nat), d2]), some (.lst (ndl cs)), y2, y3, some (.int ((t + (l.map fun q => N (zw cs q.1) a).sum : Nat) : Int)), z5, y6, y7, y8] S
  | [], t, y5, _ => ⟨y5, by
    simp only [List.map_nil, List.sum_nil, Nat.add_zero]
    exact fg_nil (gOk_one0 hb)⟩
  | p :: l, t, y5, hp => by
    obtain ⟨r, s⟩ := p
    obtain ⟨hr1, hr2⟩ := hp (r, s) List.mem_cons_self
    obtain ⟨z5, e⟩ := tot_loop n S h1 h5 ha hb y2 y3 y6 y7 y8 l (t + N (zw cs r) a) (some (pD (r, s))) fun q hq => hp q (List.mem_cons_of_mem _ hq)
    refine ⟨z5, ?_⟩
    rw [List.map_cons, List.map_cons, List.sum_cons, ← Nat.add_assoc, ← e]
    have hr1' : r.length = cs.length := hr1
    have ev := sub_ev (n + 2) S (cs := cs) hr1' (by omega) hr2 s (some (.lst [d0, .int (a : Nat), d2])) y2 y3 (some (.int (t : Nat))) y6 y7 y8
    have zl : (zw cs r).length = cs.length := by rw [zw, List.length_zipWith, hr1', Nat.min_self]
    have tw := two n S (cs := zw cs r) (a := a) (by omega) (by omega) ha
    push_cast
    refine fg_nx (gOk_one0 hb) rfl ?_
    generalize ndl (zw cs r) = Q3 at *
    generalize N (zw cs r) a = v at *
    generalize ndl cs = Q at *
    generalize pD (r, s) = Q2 at *
    simp (dsimp := false) (implicitDefEqProofs := false) [b13l0, ev, tw, exSs, exS, evE.eq_1, evE.eq_2, evE.eq_3, evE.eq_4, evE.eq_5, evE.eq_6, evE.eq_7, evE.eq_8, evE.eq_9, evE.eq_10, evE.eq_11, evE.eq_12, evE.eq_13, evE.eq_14, evE.eq_15, evE.eq_16, evE.eq_17, evE.eq_18, evE.eq_19, evE.eq_20, evE.eq_21, evE.eq_22, evE.eq_23, evE.eq_24, evE.eq_25, evE.eq_26, evE.eq_27, evE.eq_28, evE.eq_31, evE.eq_32, evE.eq_33, evT, evL, evI, evC, evW, startF, setS, idxD, seqOf, ixN, binD, arI, setI, cmpD, intCmp, cmpI, truD, isAny, isD, isNo, pln, vw, eqD, biD, tidy_same, wipe, toR_nx, refIx, augV, valS]
theorem three (n : Nat) (S : Store) {cs : List Nat} (h1 : 1 ≤ cs.length) (h5 : cs.length ≤ 5) (hc : ∀ c ∈ cs, c ≤ 12) {a b c : Nat} (ha : a ≤ 90) (hb : b ≤ 90) (hs : a + b + c = cs.sum) : run T (n + 3) 13 [.lst (ndl [a, b, c]), .lst (ndl cs)] S = .ok (.int (cnt [a, b, c] cs : Nat)) S := by
  obtain ⟨m, hm⟩ : ∃ m, cs.length = m + 1 := ⟨cs.length - 1, by omega⟩
  have cne : cs ≠ [] := fun e => by rw [e] at h1; exact absurd h1 (by decide)
  have l1 : (ndl cs).length = m + 1 := by rw [ndl_len, hm]
  obtain ⟨Y, b', z3, z5, z6, z7, z8, e1, g1⟩ := out3 (C := csOf T (n + 2)) (m := m) l1 (some (.lst (ndl [a, b, c]))) none cs 0 0 [([], a)] (S ++ [.lst [pD ([], a)]]) S.length none none none none none (by omega) (ag0 S _)
    (fun j hj => by rw [Nat.zero_add]; exact ndl_get hj) hc (fun p hp => by rw [List.mem_singleton.mp hp]; exact ⟨rfl, by show a < _; omega⟩) (by omega) (by
      rw [List.length_singleton, Nat.one_mul]
      exact Nat.le_trans (Nat.pow_le_pow_right (by decide) h5) (by decide))
  obtain ⟨w5, e2⟩ := tot_loop n (S ++ [.lst [pD ([], a)]] ++ Y) h1 h5 (d0 := .int (a : Nat)) (d2 := .int (c : Nat)) (a := b) hb g1 (some (.ref b')) z3 z6 z7 z8 (vec cs [([], a)]) 0 z5 (fun p hp => by
    have := vec_le (cs := cs) (pre := []) (l := [([], a)]) (fun q hq => by rw [List.mem_singleton.mp hq]; exact ⟨rfl, fun j x e => by simp at e⟩) p hp
    exact this)
  have vs : ((vec cs [([], a)]).map fun q => N (zw cs q.1) b).sum = cnt [a, b, c] cs := by
    rw [cnt_three hs]
    exact vec_sum cne a fun z => N z b
  rw [vs, Nat.zero_add] at e2
  rw [run_def (n := n + 2) (F := ⟨2, 9, b13, true⟩) rfl rfl]
  have td : tidy true S (.ok (.int (cnt [a, b, c] cs : Nat)) (S ++ ([.lst [pD ([], a)]] ++ Y))) = .ok (.int (cnt [a, b, c] cs : Nat)) S := tidy_dropL rfl
  rw [← List.append_assoc] at td
  have pd : pD ([], a) = .tup [.tup [], .int (a : Nat)] := rfl
  have e00 : ((0 : Nat) : Int) = 0 := rfl
  have nd : ndl [a, b, c] = [.int (a : Nat), .int (b : Nat), .int (c : Nat)] := rfl
  rw [pd, e00, hm] at e1
  rw [pd] at e2 td g1
  rw [e00] at e2
  rw [nd] at e1 ⊢
  obtain ⟨M, hM⟩ : ∃ M, M = m + 1 := ⟨_, rfl⟩
  rw [← hM] at l1 e1
  have lim : (M : Int) ≤ LIM ∧ -(LIM : Int) ≤ M := by unfold LIM; omega
  have so : seqIt (.ref b') (S ++ [Cell.lst [.tup [.tup [], .int (a : Nat)]]] ++ Y) = .ok ((vec cs [([], a)]).map pD, [(b', .lst ((vec cs [([], a)]).map pD))]) (S ++ [Cell.lst [.tup [.tup [], .int (a : Nat)]]] ++ Y) := by
    simp only [seqIt, seqOf, g1, Ev.guard]
  generalize (vec cs [([], a)]).map pD = V at *
  generalize ndl cs = Q at *
  generalize S ++ [Cell.lst [.tup [.tup [], .int (a : Nat)]]] ++ Y = ZZ at *
  simp (dsimp := false) (implicitDefEqProofs := false) [b13, mkL, l1, rngIt, lim, e1, so, e2, exSs, exS, evE.eq_1, evE.eq_2, evE.eq_3, evE.eq_4, evE.eq_5, evE.eq_6, evE.eq_7, evE.eq_8, evE.eq_9, evE.eq_10, evE.eq_11, evE.eq_12, evE.eq_13, evE.eq_14, evE.eq_15, evE.eq_16, evE.eq_17, evE.eq_18, evE.eq_19, evE.eq_20, evE.eq_21, evE.eq_22, evE.eq_23, evE.eq_24, evE.eq_25, evE.eq_26, evE.eq_27, evE.eq_28, evE.eq_31, evE.eq_32, evE.eq_33, evT, evL, evI, evC, evW, startF, setS, idxD, seqOf, ixN, binD, arI, setI, cmpD, intCmp, cmpI, truD, isAny, isD, isNo, pln, vw, eqD, biD, tidy_same, wipe, toR_nx, refIx, augV, valS]
  exact td
end Lw
end
section
set_option maxRecDepth 100000
set_option maxHeartbeats 8000000
namespace Lw
open Ev Lg
theorem sam (k : Nat) (d : D) (h : sm k d = true) {n : Nat} (hn : k ≤ n) (S : Store) : run T (n + 1) 10 [d, d] S = .ok (.bl true) S := same_of (T := T) (f := 10) rfl k d h n S hn
end Lw
end
section
set_option maxRecDepth 100000
set_option maxHeartbeats 8000000
namespace Lw
open Ev Lg
theorem three_r : ∀ r : Nat, r < 7 → cnt [r, r, r] [r, r, r] = bin (r + 2) 4 + bin (r + 3) 4 + bin (r + 4) 4 := by decide +kernel
theorem two_4 : cnt [2, 2, 2, 2] [2, 2, 2, 2] = 282 := by decide +kernel
theorem one_w : ∀ w : Nat, w < 5 → cnt (List.replicate w 1) (List.replicate w 1) = [1, 1, 2, 6, 24].getD w 0 := by decide +kernel
/-- two margins -/
structure Mr (l r : List Nat) : Prop where
  l1 : 1 ≤ l.length
  l4 : l.length ≤ 4
  r1 : 1 ≤ r.length
  r4 : r.length ≤ 4
  lc : ∀ x ∈ l, x ≤ 12
  rc : ∀ x ∈ r, x ≤ 12
  sm : l.sum = r.sum
theorem len2 {l : List Nat} (h : l.length = 2) : ∃ a b, l = [a, b] := by
  match l, h with
  | [a, b], _ => exact ⟨a, b, rfl⟩
theorem len3 {l : List Nat} (h : l.length = 3) : ∃ a b c, l = [a, b, c] := by
  match l, h with
  | [a, b, c], _ => exact ⟨a, b, c, rfl⟩
theorem ones_ev (n : Nat) (S : Store) {e : Ex} {w : Nat} (hw : w ≤ 4) {ρ : Fr} (h2 : ρ[2]? = some (some (.int (w : Nat)))) (he : ∀ d x, evE (csOf T n) e (setS (wipe ρ [9]) 9 d) (S ++ [x]) = .ok (.int 1) (S ++ [x])) :
    evE (csOf T n) (.lc false [9] (.nm 9) (.rng (.cons (.var 2) .nil)) .no e) ρ S = .ok (.lst (ndl (List.replicate w 1))) S := by
  have em : (upTo 0 w).map (fun _ => D.int 1) = ndl (List.replicate w 1) := by
    rw [upTo0, List.map_map]
    unfold ndl
    rw [List.map_replicate]
    apply List.ext_getElem
    · simp
    · intro i h1 h2
      simp
  have lim : (w : Int) ≤ LIM ∧ -(LIM : Int) ≤ w := by unfold LIM; omega
  have := lc_map (C := csOf T n) (own := [9]) (tg := .nm 9) (it := .rng (.cons (.var 2) .nil)) (e := e) (ρ := ρ) (S := S) (l := upTo 0 w) (g := []) (fun _ => .int 1) (by simp (dsimp := false) (implicitDefEqProofs := false) [h2, rngIt, lim, exSs, exS, evE.eq_1, evE.eq_2, evE.eq_3, evE.eq_4, evE.eq_5, evE.eq_6, evE.eq_7, evE.eq_8, evE.eq_9, evE.eq_10, evE.eq_11, evE.eq_12, evE.eq_13, evE.eq_14, evE.eq_15, evE.eq_16, evE.eq_17, evE.eq_18, evE.eq_19, evE.eq_20, evE.eq_21, evE.eq_22, evE.eq_23, evE.eq_24, evE.eq_25, evE.eq_26, evE.eq_27, evE.eq_28, evE.eq_31, evE.eq_32, evE.eq_33, evT, evL, evI, evC, evW, startF, setS, idxD, seqOf, ixN, binD, arI, setI, cmpD, intCmp, cmpI, truD, isAny, isD, isNo, pln, vw, eqD, biD, tidy_same, wipe, toR_nx, refIx, augV, valS]) (fun c => gOk_nil _) (fun d hd x => ⟨_, rfl, he d x⟩) (by simp [upTo0]; exact lim_le (by omega)) (by rw [em]; exact ndl_below _ _)
  rw [em] at this
  exact this
theorem case (n : Nat) {ns : List Int} {X : Store} {k : Nat} {S : Store} (q : QG ns X k S) (hk : k < 2 ^ 40) : ∃ (l r : List Nat) (S' : Store), run T (n + 4) 15 [.ref 0] S = .ok (.tup [.lst (ndl l), .lst (ndl r), .int (cnt l r : Nat)]) S' ∧ QG ns X (k + 30) S' ∧ Mr l r := by
  obtain ⟨wa, S1, e1, q1, wa8⟩ := dq q (by omega) (m := 8) (by omega) (by omega) (n + 2)
  obtain ⟨wi0, S2, e2, q2, wi4⟩ := dq q1 (by omega) (m := 4) (by omega) (by omega) (n + 2)
  obtain ⟨w, hw⟩ : ∃ w, w = wi0 + 1 := ⟨_, rfl⟩
  have ew : 1 + (wi0 : Int) = (w : Nat) := by omega
  have e1' : run T (n + 3) 8 [.ref 0, .int 8] S = .ok (.int (wa : Nat)) S1 := e1
  have e2' : run T (n + 3) 8 [.ref 0, .int 4] S1 = .ok (.int (wi0 : Nat)) S2 := e2
  rw [run_def (n := n + 3) (F := ⟨1, 10, b15, true⟩) rfl rfl]
  by_cases h3 : wa < 3
  · obtain ⟨x3, S3, e3, q3, x33⟩ := dq q2 (by omega) (m := 3) (by omega) (by omega) (n + 2)
    obtain ⟨mo, hmo, mo12⟩ : ∃ mo, ([3, 6, 12] : List Nat)[x3]? = some mo ∧ mo ≤ 12 := by
      have hb : x3 = 0 ∨ x3 = 1 ∨ x3 = 2 := by omega
      rcases hb with rfl | rfl | rfl
      · exact ⟨3, rfl, by omega⟩
      · exact ⟨6, rfl, by omega⟩
      · exact ⟨12, rfl, by omega⟩
    obtain ⟨mi, hmi⟩ : ∃ mi, mi = min 2 w := ⟨_, rfl⟩
    obtain ⟨p, hp⟩ : ∃ p, p = mo * mi := ⟨_, rfl⟩
    have pm : p ≤ 24 := by rw [hp]; exact Nat.le_trans (Nat.mul_le_mul mo12 (show mi ≤ 2 by omega)) (by decide)
    have p2 : p ≤ mo * 2 := by rw [hp]; exact Nat.mul_le_mul_left _ (by omega)
    have pw : p ≤ mo * w := by rw [hp]; exact Nat.mul_le_mul_left _ (by omega)
    obtain ⟨t, S4, e4, q4, t1⟩ := dq q3 (by omega) (m := (p : Int) + 1) (by omega) (by omega) (n + 2)
    obtain ⟨l, S5, e5, q5, l1, l2, l3⟩ := margin n q4 (m := 2) (mo := mo) (t := t) (by omega) mo12 (by omega) (by omega)
    obtain ⟨r, S6, e6, q6, r1, r2, r3⟩ := margin n q5 (m := w) (mo := mo) (t := t) (by omega) mo12 (by omega) (by omega)
    obtain ⟨a, b, rfl⟩ := len2 l1
    have sab : a + b = r.sum := by rw [r2, ← l2]; simp
    have a12 : a ≤ 12 := Nat.le_trans (l3 a (by simp)) mo12
    have tw := two (n + 1) S6 (cs := r) (a := a) (by omega) (by omega) (by omega)
    refine ⟨[a, b], r, S6, ?_, q6.mono (by omega), ⟨by simp, by simp, by omega, by omega, fun x h => Nat.le_trans (l3 x h) mo12, fun x h => Nat.le_trans (r3 x h) mo12, by rw [l2, r2]⟩⟩
    rw [cnt_two sab]
    have e3' : run T (n + 3) 8 [.ref 0, .int 3] S2 = .ok (.int (x3 : Nat)) S3 := e3
    have e4' : run T (n + 3) 8 [.ref 0, .int ((p : Int) + 1)] S3 = .ok (.int (t : Nat)) S4 := e4
    have hvD : ([D.int 3, D.int 6, D.int 12])[x3]? = some (.int (mo : Nat)) := by
      have := congrArg (Option.map fun x : Nat => D.int (x : Nat)) hmo
      rw [← List.getElem?_map] at this
      simpa using this
    have mi1 : (if w < 2 then (w : Int) else 2) = (mi : Nat) := by split <;> omega
    have mi2 : (if (w : Int) < 2 then (w : Int) else 2) = (mi : Nat) := by split <;> omega
    have w1 : mo < Wd := wd_n (by omega)
    have w2 : mi < Wd := wd_n (by omega)
    have pp : (mo : Int) * (mi : Nat) = (p : Nat) := by rw [hp]; push_cast; rfl
    have x3i : (x3 : Int) < 3 := x33
    have h3i : (wa : Int) < 3 := by omega
    have la : ndl [a, b] = [.int (a : Nat), .int (b : Nat)] := rfl
    have e5' : run T (n + 3) 14 [.ref 0, .int 2, .int (t : Nat), .int (mo : Nat)] S4 = .ok (.lst [.int (a : Nat), .int (b : Nat)]) S5 := e5
    rw [la]
    generalize N r a = v at *
    have bb : belowL S.length (ndl r) = true := ndl_below _ _
    generalize ndl r = R at *
    simp (dsimp := false) (implicitDefEqProofs := false) [b15, e1', e2', ew, h3, h3i, e3', x3i, hvD, mi1, mi2, w1, w2, pp, e4', e5', e6, tw, mkL, exSs, exS, evE.eq_1, evE.eq_2, evE.eq_3, evE.eq_4, evE.eq_5, evE.eq_6, evE.eq_7, evE.eq_8, evE.eq_9, evE.eq_10, evE.eq_11, evE.eq_12, evE.eq_13, evE.eq_14, evE.eq_15, evE.eq_16, evE.eq_17, evE.eq_18, evE.eq_19, evE.eq_20, evE.eq_21, evE.eq_22, evE.eq_23, evE.eq_24, evE.eq_25, evE.eq_26, evE.eq_27, evE.eq_28, evE.eq_31, evE.eq_32, evE.eq_33, evT, evL, evI, evC, evW, startF, setS, idxD, seqOf, ixN, binD, arI, setI, cmpD, intCmp, cmpI, truD, isAny, isD, isNo, pln, vw, eqD, biD, tidy_same, wipe, toR_nx, refIx, augV, valS]
    refine q.tidy0 q6 ?_
    simp [Ev.below, Ev.belowL, bb]
  by_cases h6 : wa < 6
  · obtain ⟨t, S4, e4, q4, t1⟩ := dq q2 (by omega) (m := 10) (by omega) (by omega) (n + 2)
    obtain ⟨l, S5, e5, q5, l1, l2, l3⟩ := margin n q4 (m := 3) (mo := 9) (t := t) (by omega) (by omega) (by omega) (by omega)
    obtain ⟨r, S6, e6, q6, r1, r2, r3⟩ := margin n q5 (m := w) (mo := 9) (t := t) (by omega) (by omega) (by omega) (by omega)
    have pr := srt_perm l
    obtain ⟨a, b, c, es⟩ := len3 (show (srt l).length = 3 by rw [pr.length_eq, l1])
    have sabc : a + b + c = r.sum := by
      have := pr.sum_nat
      rw [es, l2] at this
      simp at this
      omega
    have mem : ∀ x ∈ [a, b, c], x ≤ 9 := fun x h => l3 x (pr.mem_iff.mp (by rw [es]; exact h))
    have th := three n S6 (cs := r) (a := a) (b := b) (c := c) (by omega) (by omega) (fun x h => by have := r3 x h; omega) (by have := mem a (by simp); omega) (by have := mem b (by simp); omega) sabc
    rw [← es, cnt_perm pr] at th
    refine ⟨l, r, S6, ?_, q6.mono (by omega), ⟨by omega, by omega, by omega, by omega, fun x h => by have := l3 x h; omega, fun x h => by have := r3 x h; omega, by rw [l2, r2]⟩⟩
    have e4' : run T (n + 3) 8 [.ref 0, .int 10] S2 = .ok (.int (t : Nat)) S4 := e4
    have h3i : ¬ (wa : Int) < 3 := by omega
    have h6i : (wa : Int) < 6 := by omega
    have e5' : run T (n + 3) 14 [.ref 0, .int 3, .int (t : Nat), .int 9] S4 = .ok (.lst (ndl l)) S5 := e5
    have e6' : run T (n + 3) 14 [.ref 0, .int (w : Nat), .int (t : Nat), .int 9] S5 = .ok (.lst (ndl r)) S6 := e6
    have a0 : allInt (ndl l) = some (iN l) := allInt_ndl l
    have a1 : (sortI (iN l)).map D.int = ndl (srt l) := by rw [srt_D, iN_ndl]
    have bb : belowL S.length (ndl r) = true := ndl_below _ _
    have b2 : belowL S.length (ndl l) = true := ndl_below _ _
    generalize cnt l r = v at *
    generalize ndl (srt l) = Q at *
    generalize iN l = Q2 at *
    generalize ndl r = R at *
    generalize ndl l = L at *
    simp (dsimp := false) (implicitDefEqProofs := false) [b15, e1', e2', ew, h3, h3i, h6, h6i, e4', e5', e6', a0, a1, mkL, th, exSs, exS, evE.eq_1, evE.eq_2, evE.eq_3, evE.eq_4, evE.eq_5, evE.eq_6, evE.eq_7, evE.eq_8, evE.eq_9, evE.eq_10, evE.eq_11, evE.eq_12, evE.eq_13, evE.eq_14, evE.eq_15, evE.eq_16, evE.eq_17, evE.eq_18, evE.eq_19, evE.eq_20, evE.eq_21, evE.eq_22, evE.eq_23, evE.eq_24, evE.eq_25, evE.eq_26, evE.eq_27, evE.eq_28, evE.eq_31, evE.eq_32, evE.eq_33, evT, evL, evI, evC, evW, startF, setS, idxD, seqOf, ixN, binD, arI, setI, cmpD, intCmp, cmpI, truD, isAny, isD, isNo, pln, vw, eqD, biD, tidy_same, wipe, toR_nx, refIx, augV, valS]
    exact q.tidy0 q6 (by simp [below, belowL, bb, b2])
  by_cases h7 : wa = 6
  · obtain ⟨x, S3, e3, q3, x7⟩ := dq q2 (by omega) (m := 7) (by omega) (by omega) (n + 2)
    have x7' : x < 7 := by omega
    refine ⟨[x, x, x], [x, x, x], S3, ?_, q3.mono (by omega), ⟨by simp, by simp, by simp, by simp, fun y h => by simp at h; omega, fun y h => by simp at h; omega, rfl⟩⟩
    have e3' : run T (n + 3) 8 [.ref 0, .int 7] S2 = .ok (.int (x : Nat)) S3 := e3
    have c2 := choices (n + 2) S3 (a := x + 2) (w := 4) (by omega) (by omega)
    have c3 := choices (n + 2) S3 (a := x + 3) (w := 4) (by omega) (by omega)
    have c4 := choices (n + 2) S3 (a := x + 4) (w := 4) (by omega) (by omega)
    rw [three_r x x7']
    have c2' : run T (n + 3) 11 [.int ((x : Nat) + 2), .int 4] S3 = .ok (.int (bin (x + 2) 4 : Nat)) S3 := c2
    have c3' : run T (n + 3) 11 [.int ((x : Nat) + 3), .int 4] S3 = .ok (.int (bin (x + 3) 4 : Nat)) S3 := c3
    have c4' : run T (n + 3) 11 [.int ((x : Nat) + 4), .int 4] S3 = .ok (.int (bin (x + 4) 4 : Nat)) S3 := c4
    clear c2 c3 c4
    push_cast
    generalize bin (x + 2) 4 = v2 at *
    generalize bin (x + 3) 4 = v3 at *
    generalize bin (x + 4) 4 = v4 at *
    have lx : ndl [x, x, x] = [.int (x : Nat), .int (x : Nat), .int (x : Nat)] := rfl
    rw [lx]
    subst h7
    simp (dsimp := false) (implicitDefEqProofs := false) [b15, e1', e2', ew, e3', c2', c3', c4', mkL, exSs, exS, evE.eq_1, evE.eq_2, evE.eq_3, evE.eq_4, evE.eq_5, evE.eq_6, evE.eq_7, evE.eq_8, evE.eq_9, evE.eq_10, evE.eq_11, evE.eq_12, evE.eq_13, evE.eq_14, evE.eq_15, evE.eq_16, evE.eq_17, evE.eq_18, evE.eq_19, evE.eq_20, evE.eq_21, evE.eq_22, evE.eq_23, evE.eq_24, evE.eq_25, evE.eq_26, evE.eq_27, evE.eq_28, evE.eq_31, evE.eq_32, evE.eq_33, evT, evL, evI, evC, evW, startF, setS, idxD, seqOf, ixN, binD, arI, setI, cmpD, intCmp, cmpI, truD, isAny, isD, isNo, pln, vw, eqD, biD, tidy_same, wipe, toR_nx, refIx, augV, valS]
    refine q.tidy0 q3 ?_
    simp [Ev.below, Ev.belowL]
  have w7 : wa = 7 := by omega
  subst w7
  by_cases h4 : w = 4
  · subst h4
    obtain ⟨x, S3, e3, q3, x2⟩ := dq q2 (by omega) (m := 2) (by omega) (by omega) (n + 2)
    have e3' : run T (n + 3) 8 [.ref 0, .int 2] S2 = .ok (.int (x : Nat)) S3 := e3
    by_cases hx : x = 0
    · subst hx
      refine ⟨[2, 2, 2, 2], [2, 2, 2, 2], S3, ?_, q3.mono (by omega), ⟨by simp, by simp, by simp, by simp, fun y h => by simp at h; omega, fun y h => by simp at h; omega, rfl⟩⟩
      rw [two_4]
      have lx : ndl [2, 2, 2, 2] = [.int 2, .int 2, .int 2, .int 2] := rfl
      rw [lx]
      simp (dsimp := false) (implicitDefEqProofs := false) [b15, e1', e2', ew, e3', mkL, exSs, exS, evE.eq_1, evE.eq_2, evE.eq_3, evE.eq_4, evE.eq_5, evE.eq_6, evE.eq_7, evE.eq_8, evE.eq_9, evE.eq_10, evE.eq_11, evE.eq_12, evE.eq_13, evE.eq_14, evE.eq_15, evE.eq_16, evE.eq_17, evE.eq_18, evE.eq_19, evE.eq_20, evE.eq_21, evE.eq_22, evE.eq_23, evE.eq_24, evE.eq_25, evE.eq_26, evE.eq_27, evE.eq_28, evE.eq_31, evE.eq_32, evE.eq_33, evT, evL, evI, evC, evW, startF, setS, idxD, seqOf, ixN, binD, arI, setI, cmpD, intCmp, cmpI, truD, isAny, isD, isNo, pln, vw, eqD, biD, tidy_same, wipe, toR_nx, refIx, augV, valS]
      exact q.tidy0 q3 (by simp [below, belowL])
    · have hx1 : x = 1 := by omega
      subst hx1
      refine ⟨List.replicate 4 1, List.replicate 4 1, S3, ?_, q3.mono (by omega), ⟨by simp, by simp, by simp, by simp, fun y h => by simp at h; omega, fun y h => by simp at h; omega, rfl⟩⟩
      rw [one_w 4 (by omega)]
      have o1 := ones_ev (n + 3) S3 (w := 4) (by omega) (e := b15e0) (ρ := [some (.ref 0), some (.int 7), some (.int 4), some (.int 24), none, none, none, none, none, none]) rfl (fun d x => by simp (dsimp := false) (implicitDefEqProofs := false) [b15e0, exSs, exS, evE.eq_1, evE.eq_2, evE.eq_3, evE.eq_4, evE.eq_5, evE.eq_6, evE.eq_7, evE.eq_8, evE.eq_9, evE.eq_10, evE.eq_11, evE.eq_12, evE.eq_13, evE.eq_14, evE.eq_15, evE.eq_16, evE.eq_17, evE.eq_18, evE.eq_19, evE.eq_20, evE.eq_21, evE.eq_22, evE.eq_23, evE.eq_24, evE.eq_25, evE.eq_26, evE.eq_27, evE.eq_28, evE.eq_31, evE.eq_32, evE.eq_33, evT, evL, evI, evC, evW, startF, setS, idxD, seqOf, ixN, binD, arI, setI, cmpD, intCmp, cmpI, truD, isAny, isD, isNo, pln, vw, eqD, biD, tidy_same, wipe, toR_nx, refIx, augV, valS])
      have o2 := ones_ev (n + 3) S3 (w := 4) (by omega) (e := b15e1) (ρ := [some (.ref 0), some (.int 7), some (.int 4), some (.int 24), none, none, none, none, none, none]) rfl (fun d x => by simp (dsimp := false) (implicitDefEqProofs := false) [b15e1, exSs, exS, evE.eq_1, evE.eq_2, evE.eq_3, evE.eq_4, evE.eq_5, evE.eq_6, evE.eq_7, evE.eq_8, evE.eq_9, evE.eq_10, evE.eq_11, evE.eq_12, evE.eq_13, evE.eq_14, evE.eq_15, evE.eq_16, evE.eq_17, evE.eq_18, evE.eq_19, evE.eq_20, evE.eq_21, evE.eq_22, evE.eq_23, evE.eq_24, evE.eq_25, evE.eq_26, evE.eq_27, evE.eq_28, evE.eq_31, evE.eq_32, evE.eq_33, evT, evL, evI, evC, evW, startF, setS, idxD, seqOf, ixN, binD, arI, setI, cmpD, intCmp, cmpI, truD, isAny, isD, isNo, pln, vw, eqD, biD, tidy_same, wipe, toR_nx, refIx, augV, valS])
      have bb : belowL S.length (ndl (List.replicate 4 1)) = true := ndl_below _ _
      generalize ndl (List.replicate 4 1) = R at *
      simp (dsimp := false) (implicitDefEqProofs := false) [b15, e1', e2', ew, e3', mkL, o1, o2, exSs, exS, evE.eq_1, evE.eq_2, evE.eq_3, evE.eq_4, evE.eq_5, evE.eq_6, evE.eq_7, evE.eq_8, evE.eq_9, evE.eq_10, evE.eq_11, evE.eq_12, evE.eq_13, evE.eq_14, evE.eq_15, evE.eq_16, evE.eq_17, evE.eq_18, evE.eq_19, evE.eq_20, evE.eq_21, evE.eq_22, evE.eq_23, evE.eq_24, evE.eq_25, evE.eq_26, evE.eq_27, evE.eq_28, evE.eq_31, evE.eq_32, evE.eq_33, evT, evL, evI, evC, evW, startF, setS, idxD, seqOf, ixN, binD, arI, setI, cmpD, intCmp, cmpI, truD, isAny, isD, isNo, pln, vw, eqD, biD, tidy_same, wipe, toR_nx, refIx, augV, valS]
      exact q.tidy0 q3 (by simp [below, belowL, bb])
  · have w1 : 1 ≤ w := by omega
    have w3 : w ≤ 3 := by omega
    obtain ⟨v, hv⟩ : ∃ v, v = [1, 1, 2, 6, 24].getD w 0 := ⟨_, rfl⟩
    refine ⟨List.replicate w 1, List.replicate w 1, S2, ?_, q2.mono (by omega), ⟨by simp; omega, by simp; omega, by simp; omega, by simp; omega, fun y h => by rw [(List.mem_replicate.mp h).2]; omega, fun y h => by rw [(List.mem_replicate.mp h).2]; omega, rfl⟩⟩
    rw [one_w w (by omega), ← hv]
    have o1 := ones_ev (n + 3) S2 (w := w) (by omega) (e := b15e0) (ρ := [some (.ref 0), some (.int 7), some (.int (w : Nat)), some (.int (v : Nat)), none, none, none, none, none, none]) rfl (fun d x => by simp (dsimp := false) (implicitDefEqProofs := false) [b15e0, exSs, exS, evE.eq_1, evE.eq_2, evE.eq_3, evE.eq_4, evE.eq_5, evE.eq_6, evE.eq_7, evE.eq_8, evE.eq_9, evE.eq_10, evE.eq_11, evE.eq_12, evE.eq_13, evE.eq_14, evE.eq_15, evE.eq_16, evE.eq_17, evE.eq_18, evE.eq_19, evE.eq_20, evE.eq_21, evE.eq_22, evE.eq_23, evE.eq_24, evE.eq_25, evE.eq_26, evE.eq_27, evE.eq_28, evE.eq_31, evE.eq_32, evE.eq_33, evT, evL, evI, evC, evW, startF, setS, idxD, seqOf, ixN, binD, arI, setI, cmpD, intCmp, cmpI, truD, isAny, isD, isNo, pln, vw, eqD, biD, tidy_same, wipe, toR_nx, refIx, augV, valS])
    have o2 := ones_ev (n + 3) S2 (w := w) (by omega) (e := b15e1) (ρ := [some (.ref 0), some (.int 7), some (.int (w : Nat)), some (.int (v : Nat)), none, none, none, none, none, none]) rfl (fun d x => by simp (dsimp := false) (implicitDefEqProofs := false) [b15e1, exSs, exS, evE.eq_1, evE.eq_2, evE.eq_3, evE.eq_4, evE.eq_5, evE.eq_6, evE.eq_7, evE.eq_8, evE.eq_9, evE.eq_10, evE.eq_11, evE.eq_12, evE.eq_13, evE.eq_14, evE.eq_15, evE.eq_16, evE.eq_17, evE.eq_18, evE.eq_19, evE.eq_20, evE.eq_21, evE.eq_22, evE.eq_23, evE.eq_24, evE.eq_25, evE.eq_26, evE.eq_27, evE.eq_28, evE.eq_31, evE.eq_32, evE.eq_33, evT, evL, evI, evC, evW, startF, setS, idxD, seqOf, ixN, binD, arI, setI, cmpD, intCmp, cmpI, truD, isAny, isD, isNo, pln, vw, eqD, biD, tidy_same, wipe, toR_nx, refIx, augV, valS])
    have bb : belowL S.length (ndl (List.replicate w 1)) = true := ndl_below _ _
    have hvD : ([D.int 1, D.int 1, D.int 2, D.int 6, D.int 24])[w]? = some (.int (v : Nat)) := by
      have : w = 1 ∨ w = 2 ∨ w = 3 := by omega
      rcases this with rfl | rfl | rfl <;> (subst hv; rfl)
    generalize ndl (List.replicate w 1) = R at *
    have w5 : (w : Int) < 5 := by omega
    have w4 : ((w : Int) == 4) = false := beq_eq_false_iff_ne.mpr (by omega)
    have w4' : ¬ (w : Int) = 4 := by omega
    simp (dsimp := false) (implicitDefEqProofs := false) [b15, e1', e2', ew, w4, w4', h4, w5, hvD, mkL, o1, o2, exSs, exS, evE.eq_1, evE.eq_2, evE.eq_3, evE.eq_4, evE.eq_5, evE.eq_6, evE.eq_7, evE.eq_8, evE.eq_9, evE.eq_10, evE.eq_11, evE.eq_12, evE.eq_13, evE.eq_14, evE.eq_15, evE.eq_16, evE.eq_17, evE.eq_18, evE.eq_19, evE.eq_20, evE.eq_21, evE.eq_22, evE.eq_23, evE.eq_24, evE.eq_25, evE.eq_26, evE.eq_27, evE.eq_28, evE.eq_31, evE.eq_32, evE.eq_33, evT, evL, evI, evC, evW, startF, setS, idxD, seqOf, ixN, binD, arI, setI, cmpD, intCmp, cmpI, truD, isAny, isD, isNo, pln, vw, eqD, biD, tidy_same, wipe, toR_nx, refIx, augV, valS]
    exact q.tidy0 q2 (by simp [below, belowL, bb])
end Lw
end
section
set_option maxRecDepth 100000
set_option maxHeartbeats 8000000
namespace Lw
open Ev Lg
theorem perm_get {π : List Nat} {m : Nat} {l : List Nat} (h : π.Perm (List.range m)) (hl : l.length = m) : (π.map fun k => l.getD k 0).Perm l := by
  have e : (List.range m).map (fun k => l.getD k 0) = l := by
    apply List.ext_getElem
    · simp [hl]
    · intro k h1 h2
      simp [h2]
  have := h.map fun k => l.getD k 0
  rw [e] at this
  exact this
def TL : Sts := match b16 with
  | .cons _ (.cons _ (.cons _ r)) => r
  | _ => .nil
theorem tail (n : Nat) {ns : List Int} {k : Nat} {S : Store} (q : QG ns [] k S) (hk : k < 2 ^ 40) {l r : List Nat} {c : Nat} (h : Mr l r) (hc : cnt l r = c) (x0 x2 x6 x7 : Option D) :
    ∃ S', exSs (csOf T (n + 5)) TL [x0, some (.ref 0), x2, some (.lst (ndl l)), some (.lst (ndl r)), some (.int (c : Nat)), x6, x7] S = .rt (.bl true) S' := by
  have t1 := tabD n S (ls := l) (cs := r) h.r1 (by have := h.r4; omega) h.rc (by have := h.l4; omega) (fun a ha => by have := h.lc a ha; omega) h.sm
  rw [hc] at t1
  have s1 := sam 0 (.int (c : Nat)) rfl (n := n + 4) (by omega) S
  obtain ⟨π, S2, eo, q2, hp⟩ := order (n := n + 3) q (m := r.length) (by have := h.r4; omega) (by have := h.r4; omega)
  obtain ⟨o, ho⟩ : ∃ o, o = π.map fun k => r.getD k 0 := ⟨_, rfl⟩
  have pr : o.Perm r := by rw [ho]; exact perm_get hp rfl
  have t2 := tabD n S2 (ls := o) (cs := l) h.l1 (by have := h.l4; omega) h.lc (by rw [pr.length_eq]; have := h.r4; omega) (fun a ha => by have := h.rc a (pr.mem_iff.mp ha); omega) (by rw [pr.sum_nat, h.sm])
  rw [cnt_perm pr, cnt_tr, hc] at t2
  have s2 := sam 0 (.int (c : Nat)) rfl (n := n + 4) (by omega) S2
  have lr : (ndl r).length = r.length := ndl_len r
  have eo' : run T (n + 5) 9 [.ref 0, .int (r.length : Nat)] S = .ok (.lst (ndl π)) S2 := eo
  have ep := perm_ev (n + 5) (own := [7]) (v := 7) (e := b16e0) (it := .seq (.call 9 (.cons (.var 1) (.cons (.bi .len false (.cons (.var 4) .nil)) .nil)))) (ρ := [x0, some (.ref 0), x2, some (.lst (ndl l)), some (.lst (ndl r)), some (.int (c : Nat)), x6, x7]) (S0 := S) (S := S2) (l := r) hp (by have := h.r4; omega)
    (by
      generalize ndl r = R at *
      simp (dsimp := false) (implicitDefEqProofs := false) [lr, eo', seqIt, Ev.guard, exSs, exS, evE.eq_1, evE.eq_2, evE.eq_3, evE.eq_4, evE.eq_5, evE.eq_6, evE.eq_7, evE.eq_8, evE.eq_9, evE.eq_10, evE.eq_11, evE.eq_12, evE.eq_13, evE.eq_14, evE.eq_15, evE.eq_16, evE.eq_17, evE.eq_18, evE.eq_19, evE.eq_20, evE.eq_21, evE.eq_22, evE.eq_23, evE.eq_24, evE.eq_25, evE.eq_26, evE.eq_27, evE.eq_28, evE.eq_31, evE.eq_32, evE.eq_33, evT, evL, evI, evC, evW, startF, setS, idxD, seqOf, ixN, binD, arI, setI, cmpD, intCmp, cmpI, truD, isAny, isD, isNo, pln, vw, eqD, biD, tidy_same, wipe, toR_nx, refIx, augV, valS]) (fun k hk x => by
      have gk := ndl_get (l := r) (k := k) hk
      generalize r.getD k 0 = v at gk ⊢
      generalize r.length = m at *
      generalize ndl r = R at *
      have hk' : (k : Int) < m := by omega
      simp (dsimp := false) (implicitDefEqProofs := false) [b16e0, lr, hk', gk, exSs, exS, evE.eq_1, evE.eq_2, evE.eq_3, evE.eq_4, evE.eq_5, evE.eq_6, evE.eq_7, evE.eq_8, evE.eq_9, evE.eq_10, evE.eq_11, evE.eq_12, evE.eq_13, evE.eq_14, evE.eq_15, evE.eq_16, evE.eq_17, evE.eq_18, evE.eq_19, evE.eq_20, evE.eq_21, evE.eq_22, evE.eq_23, evE.eq_24, evE.eq_25, evE.eq_26, evE.eq_27, evE.eq_28, evE.eq_31, evE.eq_32, evE.eq_33, evT, evL, evI, evC, evW, startF, setS, idxD, seqOf, ixN, binD, arI, setI, cmpD, intCmp, cmpI, truD, isAny, isD, isNo, pln, vw, eqD, biD, tidy_same, wipe, toR_nx, refIx, augV, valS])
  rw [← ho] at ep
  refine ⟨S2, ?_⟩
  generalize ndl r = R at *
  generalize ndl l = L at *
  generalize ndl o = O at *
  simp (dsimp := false) (implicitDefEqProofs := false) [TL, b16, t1, s1, ep, t2, s2, pick, exSs, exS, evE.eq_1, evE.eq_2, evE.eq_3, evE.eq_4, evE.eq_5, evE.eq_6, evE.eq_7, evE.eq_8, evE.eq_9, evE.eq_10, evE.eq_11, evE.eq_12, evE.eq_13, evE.eq_14, evE.eq_15, evE.eq_16, evE.eq_17, evE.eq_18, evE.eq_19, evE.eq_20, evE.eq_21, evE.eq_22, evE.eq_23, evE.eq_24, evE.eq_25, evE.eq_26, evE.eq_27, evE.eq_28, evE.eq_31, evE.eq_32, evE.eq_33, evT, evL, evI, evC, evW, startF, setS, idxD, seqOf, ixN, binD, arI, setI, cmpD, intCmp, cmpI, truD, isAny, isD, isNo, pln, vw, eqD, biD, tidy_same, wipe, toR_nx, refIx, augV, valS]
theorem all_ok (n : Nat) {ns : List Int} (hn : ns.length ≤ 63) : ∃ S', run T (n + 6) 16 [.lst (ns.map .int)] [] = .ok (.bl true) S' := by
  obtain ⟨S, e0, q⟩ := box (n + 4) hn
  obtain ⟨l, r, S1, e1, q1, h⟩ := case (n + 1) q (by omega)
  obtain ⟨c, hc⟩ : ∃ c, c = cnt l r := ⟨_, rfl⟩
  rw [← hc] at e1
  have ll : (ndl l).length = l.length := ndl_len l
  have hT : b16 = .cons (.asg 1 (.call 7 (.cons (.var 0) .nil))) (.cons (.asgT [3, 4, 5] (.call 15 (.cons (.var 1) .nil))) (.cons (.ife (.and (.cmp .lt (.bi .len false (.cons (.var 3) .nil)) (.int 4)) (.cmp .eq (.call 8 (.cons (.var 1) (.cons (.int 3) .nil))) (.int 0)))
    (.cons (.asg 6 (.call 8 (.cons (.var 1) (.cons (.bin .add false (.bi .len false (.cons (.var 3) .nil)) (.int 1)) .nil))))
    (.cons (.asg 3 (.bin .add false (.bin .add false (.slc false (.var 3) .no (.yes (.var 6))) (.lst false (.cons (.int 0) .nil))) (.slc false (.var 3) (.yes (.var 6)) .no)))
    .nil)) .nil) TL)) := rfl
  have fin : ∀ {x : D} {S' : Store}, x = .bl true → tidy true [] (.ok x S') = .ok (.bl true) [] ∨ True := fun _ => .inr trivial
  have td : ∀ S' : Store, ∃ S2, tidy true [] (.ok (.bl true) S') = .ok (.bl true) S2 := fun S' => ⟨[], by simp [tidy, cutOk, below]⟩
  rw [run_def (n := n + 5) (F := ⟨1, 8, b16, true⟩) rfl rfl, hT]
  by_cases h4 : l.length < 4
  · obtain ⟨x, S2, e2, q2, x3⟩ := dq q1 (by omega) (m := 3) (by omega) (by omega) (n + 4)
    have e2' : run T (n + 5) 8 [.ref 0, .int 3] S1 = .ok (.int (x : Nat)) S2 := e2
    have h4i : (l.length : Int) < 4 := by omega
    by_cases hx : x = 0
    · subst hx
      obtain ⟨a, S3, e3, q3, a1⟩ := dq q2 (by omega) (m := (l.length : Int) + 1) (by omega) (by omega) (n + 4)
      have e3' : run T (n + 5) 8 [.ref 0, .int ((l.length : Int) + 1)] S2 = .ok (.int (a : Nat)) S3 := e3
      have al : a ≤ l.length := by omega
      have nl : (ndl (l.take a ++ 0 :: l.drop a)) = (ndl l).take a ++ (.int 0 :: (ndl l).drop a) := by
        unfold ndl
        rw [List.map_append, List.map_cons, List.map_take, List.map_drop]
        rfl
      have h' : Mr (l.take a ++ 0 :: l.drop a) r := ⟨by simp; omega, by simp; omega, h.r1, h.r4, fun y hy => by
        rcases List.mem_append.mp hy with hy | hy
        · exact h.lc y (List.mem_of_mem_take hy)
        · rcases List.mem_cons.mp hy with hy | hy
          · omega
          · exact h.lc y (List.mem_of_mem_drop hy), h.rc, by
        rw [← h.sm]
        have := List.take_append_drop a l
        conv => rhs; rw [← this]
        rw [List.sum_append, List.sum_append, List.sum_cons, Nat.zero_add]⟩
      have hc' : cnt (l.take a ++ 0 :: l.drop a) r = c := by rw [cnt_insert, List.take_append_drop, hc]
      obtain ⟨S4, e4⟩ := tail n q3 (by omega) h' hc' (some (.lst (ns.map .int))) none (some (.int (a : Nat))) none
      have c1 := cut_lo (ndl l) a (by rw [ll]; exact al)
      have c2 := cut_hi (ndl l) a
      have k1 : min a l.length + 1 ≤ LIM := by unfold LIM; omega
      have k2 : min a l.length + (1 + (l.length - a)) ≤ LIM := by unfold LIM; omega
      have k3 : min a l.length + 1 + (l.length - a) ≤ LIM := by unfold LIM; omega
      rw [nl] at e4
      generalize ndl l = L at *
      generalize ndl r = R at *
      generalize l.length = m at *
      simp (dsimp := false) (implicitDefEqProofs := false) [e0, e1, setT, setAll, ll, h4, h4i, e2', e3', slcD, lstOf, mkL, c1, c2, k1, k2, k3, e4, exSs, exS, evE.eq_1, evE.eq_2, evE.eq_3, evE.eq_4, evE.eq_5, evE.eq_6, evE.eq_7, evE.eq_8, evE.eq_9, evE.eq_10, evE.eq_11, evE.eq_12, evE.eq_13, evE.eq_14, evE.eq_15, evE.eq_16, evE.eq_17, evE.eq_18, evE.eq_19, evE.eq_20, evE.eq_21, evE.eq_22, evE.eq_23, evE.eq_24, evE.eq_25, evE.eq_26, evE.eq_27, evE.eq_28, evE.eq_31, evE.eq_32, evE.eq_33, evT, evL, evI, evC, evW, startF, setS, idxD, seqOf, ixN, binD, arI, setI, cmpD, intCmp, cmpI, truD, isAny, isD, isNo, pln, vw, eqD, biD, tidy_same, wipe, toR_nx, refIx, augV, valS]
      exact td _
    · have hx' : ((x : Int) == 0) = false := beq_eq_false_iff_ne.mpr (by omega)
      have hx'' : ¬ (x : Int) = 0 := by omega
      obtain ⟨S4, e4⟩ := tail n q2 (by omega) h hc.symm (some (.lst (ns.map .int))) none none none
      generalize ndl l = L at *
      generalize ndl r = R at *
      generalize l.length = m at *
      simp (dsimp := false) (implicitDefEqProofs := false) [e0, e1, setT, setAll, ll, h4, h4i, e2', hx, hx', hx'', e4, exSs, exS, evE.eq_1, evE.eq_2, evE.eq_3, evE.eq_4, evE.eq_5, evE.eq_6, evE.eq_7, evE.eq_8, evE.eq_9, evE.eq_10, evE.eq_11, evE.eq_12, evE.eq_13, evE.eq_14, evE.eq_15, evE.eq_16, evE.eq_17, evE.eq_18, evE.eq_19, evE.eq_20, evE.eq_21, evE.eq_22, evE.eq_23, evE.eq_24, evE.eq_25, evE.eq_26, evE.eq_27, evE.eq_28, evE.eq_31, evE.eq_32, evE.eq_33, evT, evL, evI, evC, evW, startF, setS, idxD, seqOf, ixN, binD, arI, setI, cmpD, intCmp, cmpI, truD, isAny, isD, isNo, pln, vw, eqD, biD, tidy_same, wipe, toR_nx, refIx, augV, valS]
      exact td _
  · have h4i : ¬ (l.length : Int) < 4 := by omega
    obtain ⟨S4, e4⟩ := tail n q1 (by omega) h hc.symm (some (.lst (ns.map .int))) none none none
    generalize ndl l = L at *
    generalize ndl r = R at *
    generalize l.length = m at *
    simp (dsimp := false) (implicitDefEqProofs := false) [e0, e1, setT, setAll, ll, h4, h4i, e4, exSs, exS, evE.eq_1, evE.eq_2, evE.eq_3, evE.eq_4, evE.eq_5, evE.eq_6, evE.eq_7, evE.eq_8, evE.eq_9, evE.eq_10, evE.eq_11, evE.eq_12, evE.eq_13, evE.eq_14, evE.eq_15, evE.eq_16, evE.eq_17, evE.eq_18, evE.eq_19, evE.eq_20, evE.eq_21, evE.eq_22, evE.eq_23, evE.eq_24, evE.eq_25, evE.eq_26, evE.eq_27, evE.eq_28, evE.eq_31, evE.eq_32, evE.eq_33, evT, evL, evI, evC, evW, startF, setS, idxD, seqOf, ixN, binD, arI, setI, cmpD, intCmp, cmpI, truD, isAny, isD, isNo, pln, vw, eqD, biD, tidy_same, wipe, toR_nx, refIx, augV, valS]
    exact td _
theorem asked : Asked T 200 17 := by
  intro ns hn
  obtain ⟨S2, ea⟩ := all_ok 193 hn
  have ea' : run T 199 16 [.lst (ns.map .int)] [] = .ok (.bl true) S2 := ea
  rw [run_def (n := 199) (F := ⟨1, 1, b17, true⟩) rfl rfl]
  simp (dsimp := false) (implicitDefEqProofs := false) [b17, ea', exSs, exS, evE.eq_1, evE.eq_2, evE.eq_3, evE.eq_4, evE.eq_5, evE.eq_6, evE.eq_7, evE.eq_8, evE.eq_9, evE.eq_10, evE.eq_11, evE.eq_12, evE.eq_13, evE.eq_14, evE.eq_15, evE.eq_16, evE.eq_17, evE.eq_18, evE.eq_19, evE.eq_20, evE.eq_21, evE.eq_22, evE.eq_23, evE.eq_24, evE.eq_25, evE.eq_26, evE.eq_27, evE.eq_28, evE.eq_31, evE.eq_32, evE.eq_33, evT, evL, evI, evC, evW, startF, setS, idxD, seqOf, ixN, binD, arI, setI, cmpD, intCmp, cmpI, truD, isAny, isD, isNo, pln, vw, eqD, biD, tidy_same, wipe, toR_nx, refIx, augV, valS]
  exact ⟨[], by simp [tidy, cutOk, below]⟩
end Lw
theorem PySem.Challenge.cw_piecerealm_k43_table_numbers_holds : PySem.Challenge.rw_piecerealm_k43_table_numbers.Holds := by
  exact PySem.Challenge.cw_piecerealm_k43_table_numbers_from Lw.asked
end
