import PyProof.Rows.All
import Wide.All
import OpenK.AllK
import Wide.FinOn
import PySem.Challenge.RW_piecerealm_k42_corners_filled
import HandS.ForMost
import HandS.TupAny
import HandS.Wide
import HandS.WideBits
import HandS.SortInts
import HandS.IsInst
import HandS.Exc
import HandS.CallSlots
import HandS.Sort
import HandS.SortOrd
import HandS.SortRule
import KE.KSortTup
import PyProof.TupleOfSeq
import HandS.Iter
import HandS.Rev
import KE.GoesEnum
import KE.KTupSum
import HandS.Deep
import HandS.RaiseMore
import HandS.Codes
import HandS.Flow
import HandS.Comp
import HandS.Zip
import HandS.Defaults
import HandS.MakeKw
import HandS.TryOnly
import HandS.Steps
import HandS.CallRecv
import HandS.ExcField
import HandS.Head0
import HandS.Head1
import HandS.Head2
import HandS.HeadEnd
import HandS.HeadHook1
import HandS.HeadHook2
import KE.KExcSuper
import KE.KSuper
import HandS.ExcInit
import HandS.ExcValue
import HandS.HeadWalk
import HandS.Ends
import HandS.Words
set_option Elab.async false
set_option linter.all false
section
set_option maxRecDepth 100000
set_option maxHeartbeats 4000000
/-! Ev, part 1: a small language, its data and its evaluator. -/
namespace Ev
open PySem
noncomputable section
open Classical

/-! #### data and store -/
inductive D where
  | non | bl (b : Bool) | int (i : Int) | str (s : List Nat) | tup (l : List D) | lst (l : List D)
  | ref (n : Nat) | obj (c : Nat) (l : List D)
  deriving Inhabited
inductive Cell where
  | lst (l : List D)
  | ins (c : Nat) (fs : List (Nat × D))
abbrev Store := List Cell
abbrev Fr := List (Option D)
inductive Rs (α : Type) where
  | ok (a : α) (S : Store)
  | ex (c : Nat) (l : List D) (S : Store)
  | bad
/-- a mark that keeps simp out of a function -/
inductive Tag {α : Type} (a : α) : Type where
  | mk
def Rs.th {α β : Type} (r : Rs α) (k : α → Store → Rs β) (_t : Tag k := .mk) : Rs β :=
  match r with
  | .ok a S => k a S
  | .ex c l S => .ex c l S
  | .bad => .bad
theorem th_ok {α β : Type} (a : α) (S : Store) (k : α → Store → Rs β) (t : Tag k) : (Rs.ok a S).th k t = k a S := rfl
theorem th_ex {α β : Type} (c : Nat) (l : List D) (S : Store) (k : α → Store → Rs β) (t : Tag k) : (Rs.ex c l S : Rs α).th k t = .ex c l S := rfl
theorem th_bad {α β : Type} (k : α → Store → Rs β) (t : Tag k) : (Rs.bad : Rs α).th k t = .bad := rfl
/-- no exception may leave (within a comprehension) -/
def Rs.nox {α : Type} : Rs α → Rs α
  | .ok a S => .ok a S
  | _ => .bad

/-! #### the language -/
inductive Op where | add | sub | mul | div | mod | pow | shl | shr | band | bor | bxor
inductive Cp where | eq | ne | lt | le | gt | ge | isIn | notIn
inductive Bi where | len | abs | min | max | sum | sorted | all | any | int | str | list | tuple | bool
inductive Bm where | append | pop | extend | index | bitLength
inductive Bt where | int | bool | str | tuple | list | dict
  deriving DecidableEq
inductive Ty where | b (t : Bt) | c (k : Nat)
inductive Tg where
  | nm (i : Nat)
  | tp (l : List Nat)
mutual
inductive Ex where
  | var (i : Nat) | non | bl (b : Bool) | int (i : Int) | str (s : List Nat) | glb (g : Nat)
  | bin (op : Op) (m : Bool) (a b : Ex) | neg (a : Ex)
  | cmp (op : Cp) (a b : Ex) | chn (o1 o2 : Cp) (a b c : Ex) | isN (n : Bool) (a : Ex)
  | and (a b : Ex) | or (a b : Ex) | not (a : Ex) | ife (c a b : Ex)
  | tup (es : Exs) | lst (m : Bool) (es : Exs)
  | idx (a b : Ex) | slc (m : Bool) (a : Ex) (lo hi : Exo) | att (a : Ex) (f : Nat)
  | call (f : Nat) (es : Exs) | calk (f : Nat) (es ks : Exs) (pm : List Nat)
  | mak (m : Bool) (c : Nat) (es : Exs) | makk (m : Bool) (c : Nat) (es ks : Exs) (pm : List Nat) | mth (a : Ex) (f : Nat) (es : Exs)
  | bi (b : Bi) (m : Bool) (es : Exs) | isI (a : Ex) (ts : List Ty) (p : Bool)
  | bm (b : Bm) (a : Ex) (es : Exs)
  | lc (m : Bool) (own : List Nat) (tg : Tg) (it : Iter) (c : Exo) (e : Ex)
  | lc2 (m : Bool) (own : List Nat) (tg : Tg) (it : Iter) (c : Exo) (tg2 : Tg) (it2 : Iter) (c2 : Exo) (e : Ex)
inductive Exs where
  | nil | cons (e : Ex) (es : Exs)
inductive Exo where
  | no | yes (e : Ex)
inductive Iter where
  | seq (e : Ex) | rng (es : Exs) | enm (e : Ex) | zip (a b : Ex) | rev (e : Ex)
end
mutual
inductive St where
  | ex (e : Ex)
  | asg (i : Nat) (e : Ex) | asgT (is : List Nat) (e : Ex) | swp (i j : Nat) (a b : Ex)
  | asgI (o i e : Ex) | asgA (o : Ex) (f : Nat) (e : Ex)
  | augN (i : Nat) (sb : Bool) (e : Ex) | augI (o i : Ex) (sb : Bool) (e : Ex) | asg2 (i j : Nat) (e : Ex)
  | ret (e : Ex) | retN | pas | brk | cnt
  | ife (c : Ex) (a b : Sts) | whl (c : Ex) (b : Sts) | forr (tg : Tg) (it : Iter) (b : Sts)
  | rai (c : Nat) (es : Exs)
  | nev
  | tryE (b : Sts) (c : Nat) (i : Option Nat) (h : Ex)
inductive Sts where
  | nil | cons (s : St) (ss : Sts)
end

/-! #### what stands behind the names -/
structure Fn where
  np : Nat
  nv : Nat
  body : Sts
  fz : Bool
structure Cl where
  flds : List Nat
  init : Option Nat
  mths : List (Nat × Nat)
structure Tb where
  fns : List Fn
  cls : List Cl
  exc : List (List Nat)
  anc : List (List Nat)
  glb : List D
/-- what is called: fn at the level at hand, fn1 one level down (for an __init__) -/
structure Cs where
  T : Tb
  fn : Nat → List D → Store → Rs D
  fn1 : Nat → List D → Store → Rs D

/-! #### values -/
def Wd : Nat := 2 ^ 4000
def LIM : Nat := 16777216
/-- a list as it stands: frozen, or a cell's -/
def lstOf (d : D) (S : Store) : Option (List D) := match d with
  | .lst l => some l
  | .ref n => match S[n]? with
    | some (.lst l) => some l
    | _ => none
  | _ => none
def seqOf (d : D) (S : Store) : Option (List D) := match d with
  | .tup l => some l
  | .lst l => some l
  | .ref n => match S[n]? with
    | some (.lst l) => some l
    | _ => none
  | _ => none
/-- a new list -/
def mkL (m : Bool) (l : List D) (S : Store) : Rs D := if m then .ok (.ref S.length) (S ++ [.lst l]) else .ok (.lst l) S
def truD (d : D) (S : Store) : Option Bool := match d with
  | .non => some false
  | .bl b => some b
  | .int i => some (i != 0)
  | .str s => if s.length ≤ LIM then some (!s.isEmpty) else none
  | .tup l => some (!l.isEmpty)
  | .lst l => some (!l.isEmpty)
  | .ref n => match S[n]? with
    | some (.lst l) => some (!l.isEmpty)
    | _ => none
  | .obj _ _ => none
def b2i (b : Bool) : Int := if b then 1 else 0
/-- ints, bools among them -/
def numD : D → Option Int
  | .int i => some i
  | _ => none
def arI (op : Op) (i j : Int) : Option Int := match op with
  | .add => some (i + j)
  | .sub => some (i - j)
  | .mul => if i.natAbs < Wd ∧ j.natAbs < Wd then some (i * j) else none
  | .div => if 0 < j ∧ j.natAbs < Wd then some (i / j) else none
  | .mod => if 0 < j then some (i % j) else none
  | .pow => if 0 ≤ j ∧ j ≤ 1000000 ∧ i.natAbs < 2 ^ 64 then some (i ^ j.toNat) else none
  | .shl => if 0 ≤ j ∧ j ≤ 1000000 ∧ i.natAbs < 2 ^ 64 then some (i * 2 ^ j.toNat) else none
  | .shr => if 0 ≤ j then some (i / 2 ^ j.toNat) else none
  | .band => some (Builtin.bitAnd i j)
  | .bor => some (Builtin.bitOr i j)
  | .bxor => some (Builtin.bitXor i j)
def binD (op : Op) (m : Bool) (d e : D) (S : Store) : Rs D := match d, e with
  | .int i, .int j => match arI op i j with
    | some k => .ok (.int k) S
    | none => .bad
  | .str s, .str t => match op with
    | .add => if s.length + t.length ≤ LIM then .ok (.str (s ++ t)) S else .bad
    | _ => .bad
  | .tup s, .tup t => match op with
    | .add => if s.length + t.length ≤ LIM then .ok (.tup (s ++ t)) S else .bad
    | _ => .bad
  | d, e => match op, lstOf d S, lstOf e S with
    | .add, some s, some t => if s.length + t.length ≤ LIM then mkL m (s ++ t) S else .bad
    | _, _, _ => .bad
/-! == -/
mutual
def eqD : D → D → Bool
  | .non, .non => true
  | .bl a, .bl b => a == b
  | .bl a, .int j => (if a then (1 : Int) else 0) == j
  | .int i, .bl b => i == (if b then (1 : Int) else 0)
  | .int i, .int j => i == j
  | .str x, .str y => x == y
  | .lst xs, .lst ys => eqL xs ys
  | .tup xs, .tup ys => eqL xs ys
  | _, _ => false
def eqL : List D → List D → Bool
  | [], [] => true
  | x :: xs, y :: ys => eqD x y && eqL xs ys
  | _, _ => false
end
mutual
/-- plain data: no object, nested below n -/
def pln : Nat → D → Bool
  | _, .non => true
  | _, .bl _ => true
  | _, .int _ => true
  | _, .str s => s.all (· < 0x110000)
  | 0, .tup _ => false
  | 0, .lst _ => false
  | n + 1, .tup l => plnL n l
  | n + 1, .lst l => plnL n l
  | _, .ref _ => false
  | _, .obj _ _ => false
def plnL : Nat → List D → Bool
  | _, [] => true
  | n, d :: l => pln n d && plnL n l
end
/-- the list of a cell in its place -/
def vw (d : D) (S : Store) : D := match d with
  | .ref n => match S[n]? with
    | some (.lst l) => .lst l
    | _ => d
  | _ => d
/-- tuples and lists of ints in order; ints -/
def allInt : List D → Option (List Int)
  | [] => some []
  | .int i :: r => match allInt r with
    | some l => some (i :: l)
    | none => none
  | _ :: _ => none
def cmpI (op : Cp) (i j : Int) : Bool := match op with
  | .lt => decide (i < j)
  | .le => decide (i ≤ j)
  | .gt => decide (j < i)
  | .ge => decide (j ≤ i)
  | .eq => decide (i = j)
  | .ne => !decide (i = j)
  | _ => false
def flD : D → Bool
  | .non => true
  | .bl _ => true
  | .int _ => true
  | .str _ => true
  | _ => false
/-- x in a list or tuple -/
def inD (d e : D) (S : Store) : Option Bool := match e with
  | .tup l => if flD d && l.all flD then some (l.any fun x => eqD x d) else none
  | e => match lstOf e S with
    | some l => if pln 60 (vw d S) && plnL 60 l then some (l.any fun x => eqD x (vw d S)) else none
    | none => none
def intCmp (op : Cp) (d e : D) : Option Bool := match d, e with
  | .int i, .int j => some (cmpI op i j)
  | _, _ => none
def cmpD (op : Cp) (d e : D) (S : Store) : Option Bool := match op with
  | .eq => if pln 60 (vw d S) && pln 60 (vw e S) then some (eqD (vw d S) (vw e S)) else none
  | .ne => if pln 60 (vw d S) && pln 60 (vw e S) then some (!eqD (vw d S) (vw e S)) else none
  | .isIn => inD d e S
  | .notIn => match inD d e S with
    | some b => some (!b)
    | none => none
  | op => intCmp op d e
/-- a place of a sequence -/
def ixN (n : Nat) (i : Int) : Option Nat := if 0 ≤ i then (if i < n then some i.toNat else none) else if -(n : Int) ≤ i then some (i + n).toNat else none
def idxD (d e : D) (S : Store) : Option D := match e with
  | .int i => match d with
    | .str s => if s.length ≤ LIM then match ixN s.length i with
        | some k => match s[k]? with
          | some c => some (.str [c])
          | none => none
        | none => none
      else none
    | d => match seqOf d S with
      | some l => match ixN l.length i with
        | some k => l[k]?
        | none => none
      | none => none
  | _ => none
def sIx (n d : Nat) : Option Int → Nat
  | none => d
  | some v => if v < 0 then (v + (n : Int)).toNat else min v.toNat n
def cut {α : Type} (xs : List α) (lo hi : Option Int) : List α := (xs.drop (sIx xs.length 0 lo)).take (sIx xs.length xs.length hi - sIx xs.length 0 lo)
def slcD (m : Bool) (d : D) (lo hi : Option Int) (S : Store) : Rs D := match d with
  | .tup l => .ok (.tup (cut l lo hi)) S
  | .str l => if l.length ≤ LIM then .ok (.str (cut l lo hi)) S else .bad
  | d => match lstOf d S with
    | some l => mkL m (cut l lo hi) S
    | none => .bad
def isD (T : Tb) (d : D) (S : Store) (t : Ty) : Option Bool := match t with
  | .b t => match d with
    | .non => some false
    | .bl _ => some (t == .bool || t == .int)
    | .int _ => some (t == .int)
    | .str _ => some (t == .str)
    | .tup _ => some (t == .tuple)
    | .lst _ => some (t == .list)
    | .ref n => match S[n]? with
      | some (.lst _) => some (t == .list)
      | some (.ins c _) => if c < T.cls.length then some false else none
      | none => none
    | .obj c _ => if c < T.cls.length then some false else none
  | .c k => if k < T.cls.length then
      match d with
      | .ref n => match S[n]? with
        | some (.lst _) => some false
        | some (.ins c _) => if c < T.cls.length then some (c == k) else none
        | none => none
      | .obj c _ => if c < T.cls.length then some (c == k) else none
      | _ => some false
    else none
def isAny (T : Tb) (d : D) (S : Store) : List Ty → Option Bool
  | [] => some false
  | t :: r => match isD T d S t with
    | some true => some true
    | some false => isAny T d S r
    | none => none
/-! built-in functions -/
def sumI : List Int → Int
  | [] => 0
  | x :: r => x + sumI r
def insI (x : Int) : List Int → List Int
  | [] => [x]
  | y :: r => if x ≤ y then x :: y :: r else y :: insI x r
def sortI : List Int → List Int
  | [] => []
  | x :: r => insI x (sortI r)
/-- the order of lists of ints -/
def lexL : List Int → List Int → Bool
  | [], [] => false
  | [], _ :: _ => true
  | _ :: _, [] => false
  | x :: xs, y :: ys => if x = y then lexL xs ys else decide (x < y)
def insT (x : List Int) : List (List Int) → List (List Int)
  | [] => [x]
  | y :: r => if lexL y x = false then x :: y :: r else y :: insT x r
def sortT : List (List Int) → List (List Int)
  | [] => []
  | x :: r => insT x (sortT r)
def allTup : List D → Option (List (List Int))
  | [] => some []
  | .tup l :: r => match allInt l, allTup r with
    | some (x :: xs), some q => some ((x :: xs) :: q)
    | _, _ => none
  | _ :: _ => none
def tupI (l : List Int) : D := .tup (l.map .int)
def allBl : List D → Option (List Bool)
  | [] => some []
  | .bl b :: r => match allBl r with
    | some l => some (b :: l)
    | none => none
  | _ :: _ => none
def maxI : Int → List Int → Int
  | m, [] => m
  | m, x :: r => maxI (if x > m then x else m) r
def minI : Int → List Int → Int
  | m, [] => m
  | m, x :: r => minI (if x < m then x else m) r
def biD (b : Bi) (m : Bool) (ds : List D) (S : Store) : Rs D := match b, ds with
  | .len, [d] => match d with
    | .str s => if s.length ≤ LIM then .ok (.int s.length) S else .bad
    | d => match seqOf d S with
      | some l => .ok (.int l.length) S
      | none => .bad
  | .abs, [.int i] => .ok (.int (if i < 0 then -i else i)) S
  | .min, [.int i, .int j] => .ok (.int (if j < i then j else i)) S
  | .max, [.int i, .int j] => .ok (.int (if j > i then j else i)) S
  | .min, [d] => match lstOf d S with
    | some l => match allInt l with
      | some (x :: r) => .ok (.int (minI x r)) S
      | _ => .bad
    | none => .bad
  | .max, [d] => match lstOf d S with
    | some l => match allInt l with
      | some (x :: r) => .ok (.int (maxI x r)) S
      | _ => .bad
    | none => .bad
  | .sum, [d] => match seqOf d S with
    | some l => match allInt l with
      | some l => .ok (.int (sumI l)) S
      | none => .bad
    | none => .bad
  | .sorted, [d] => match seqOf d S with
    | some l => match allInt l with
      | some l => mkL m ((sortI l).map .int) S
      | none => match allTup l with
        | some l => mkL m ((sortT l).map tupI) S
        | none => .bad
    | none => .bad
  | .all, [d] => match lstOf d S with
    | some l => match allBl l with
      | some l => .ok (.bl (l.all id)) S
      | none => .bad
    | none => .bad
  | .any, [d] => match lstOf d S with
    | some l => match allBl l with
      | some l => .ok (.bl (l.any id)) S
      | none => .bad
    | none => .bad
  | .int, [.int i] => .ok (.int i) S
  | .int, [.bl b] => .ok (.int (if b then 1 else 0)) S
  | .str, [.int i] => if i.natAbs.log2 < 1920 then .ok (.str ((toString i).toList.map Char.toNat)) S else .bad
  | .list, [d] => match seqOf d S with
    | some l => mkL m l S
    | none => .bad
  | .tuple, [d] => match seqOf d S with
    | some l => .ok (.tup l) S
    | none => .bad
  | .bool, [.int i] => .ok (.bl (i != 0)) S
  | .bool, [.bl b] => .ok (.bl b) S
  | _, _ => .bad
def putAt (S : Store) (n : Nat) (c : Cell) : Store := S.set n c
def bmD (b : Bm) (d : D) (ds : List D) (S : Store) : Rs D := match b, ds with
  | .append, [e] => match d with
    | .ref n => match S[n]? with
      | some (.lst l) => if l.length < LIM then .ok .non (S.set n (.lst (l ++ [e]))) else .bad
      | _ => .bad
    | _ => .bad
  | .pop, [] => match d with
    | .ref n => match S[n]? with
      | some (.lst l) => match l[l.length - 1]? with
        | some e => .ok e (S.set n (.lst l.dropLast))
        | none => .bad
      | _ => .bad
    | _ => .bad
  | .bitLength, [] => match d with
    | .int i => .ok (.int (Builtin.Int.intBits i : Nat)) S
    | _ => .bad
  | _, _ => .bad
/-- the receiver is of the method's type -/
def bmOk (b : Bm) (d : D) (S : Store) : Bool := match b with
  | .bitLength => match d with
    | .int _ => true
    | _ => false
  | .index => match d with
    | .lst _ => true
    | .ref n => match S[n]? with
      | some (.lst _) => true
      | _ => false
    | _ => false
  | _ => match d with
    | .ref n => match S[n]? with
      | some (.lst _) => true
      | _ => false
    | _ => false
def setI (d e x : D) (S : Store) : Option Store := match d, e with
  | .ref n, .int i => match S[n]? with
    | some (.lst l) => match ixN l.length i with
      | some k => some (S.set n (.lst (l.set k x)))
      | none => none
    | _ => none
  | _, _ => none
/-- x += y, x -= y -/
def augV (sb : Bool) (x y : D) : Option D := match x, y with
  | .int i, .int j => some (.int (if sb then i - j else i + j))
  | _, _ => none
def refIx (d e : D) (S : Store) : Option D := match d with
  | .ref n => match S[n]? with
    | some (.lst l) => match e with
      | .int i => match ixN l.length i with
        | some k => l[k]?
        | none => none
      | _ => none
    | _ => none
  | _ => none
def valS (ρ : Fr) (i : Nat) : Option D := match ρ[i]? with
  | some (some d) => some d
  | _ => none
/-! attributes -/
def lookN {α : Type} (f : Nat) : List (Nat × α) → Option α
  | [] => none
  | (g, x) :: r => if g = f then some x else lookN f r
def putN (f : Nat) (x : D) : List (Nat × D) → List (Nat × D)
  | [] => [(f, x)]
  | (g, y) :: r => if g = f then (g, x) :: r else (g, y) :: putN f x r
def fldsOf (T : Tb) (c : Nat) : List Nat := match T.cls[c]? with
  | some C => C.flds
  | none => []
def attD (T : Tb) (d : D) (f : Nat) (S : Store) : Option D := match d with
  | .obj c l => lookN f ((fldsOf T c).zip l)
  | .ref n => match S[n]? with
    | some (.ins c fs) => if (fldsOf T c).contains f then lookN f fs else none
    | _ => none
  | _ => none
def mthC (T : Tb) (c f : Nat) : Option Nat := match T.cls[c]? with
  | some C => lookN f C.mths
  | none => none
def mthOf (T : Tb) (d : D) (f : Nat) (S : Store) : Option Nat := match d with
  | .obj c _ => if (fldsOf T c).contains f then none else mthC T c f
  | .ref n => match S[n]? with
    | some (.ins c fs) => if (fs.map (·.1)).contains f then none else mthC T c f
    | _ => none
  | _ => none
mutual
/-- no cell from n on -/
def below (n : Nat) : D → Bool
  | .ref k => decide (k < n)
  | .tup l => belowL n l
  | .lst l => belowL n l
  | .obj _ l => belowL n l
  | _ => true
def belowL (n : Nat) : List D → Bool
  | [] => true
  | d :: l => below n d && belowL n l
end
def belowC (n : Nat) : Cell → Bool
  | .lst l => belowL n l
  | .ins _ fs => belowL n (fs.map (·.2))
/-- may the cells behind those of S be forgotten? -/
def cutOk (S S' : Store) : Bool := decide (S'.take S.length = S) || (S'.take S.length).all (belowC S.length)
/-- behind a call: cells that nobody sees are dropped; fz: a new list that is handed back is frozen -/
def tidy (fz : Bool) (S : Store) (r : Rs D) : Rs D := match r with
  | .ok d S' =>
    if cutOk S S' then
      if below S.length d then .ok d (S'.take S.length)
      else if fz then
        match d with
        | .ref n => match S'[n]? with
          | some (.lst l) => if belowL S.length l then .ok (.lst l) (S'.take S.length) else .ok d S'
          | _ => .ok d S'
        | _ => .ok d S'
      else .ok d S'
    else .ok d S'
  | .ex c l S' => if cutOk S S' && belowL S.length l then .ex c l (S'.take S.length) else .ex c l S'
  | .bad => .bad
/-- C(..): a new instance, its __init__, then frozen (m: kept as a cell) -/
def makD (T : Tb) (fn1 : Nat → List D → Store → Rs D) (m : Bool) (c : Nat) (ds : List D) (S : Store) : Rs D := match T.cls[c]? with
  | some C => match C.init with
    | some f => match fn1 f (.ref S.length :: ds) (S ++ [.ins c []]) with
      | .ok .non S' =>
        if m then .ok (.ref S.length) S'
        else match S'[S.length]? with
          | some (.ins c' fs) => if c' = c ∧ fs.map (·.1) = C.flds ∧ belowL S.length (fs.map (·.2)) ∧ cutOk S S' then .ok (.obj c (fs.map (·.2))) (S'.take S.length) else .bad
          | _ => .bad
      | .ok _ _ => .bad
      | .ex x l S' => if cutOk S S' && belowL S.length l then .ex x l (S'.take S.length) else .ex x l S'
      | .bad => .bad
    | none => .bad
  | none => .bad

/-! #### targets, what is walked -/
def setS (ρ : Fr) (i : Nat) (d : D) : Fr := ρ.set i (some d)
def setAll : List Nat → List D → Fr → Option Fr
  | [], [], ρ => some ρ
  | i :: is, d :: ds, ρ => setAll is ds (setS ρ i d)
  | _, _, _ => none
def setT (tg : Tg) (d : D) (ρ : Fr) (S : Store) : Option Fr := match tg with
  | .nm i => some (setS ρ i d)
  | .tp is => match seqOf d S with
    | some l => setAll is l ρ
    | none => none
def wipe (ρ : Fr) : List Nat → Fr
  | [] => ρ
  | i :: is => (wipe ρ is).set i none
abbrev Gd := List (Nat × Cell)
/-- the lists that are walked stand as they stood -/
def gOk (g : Gd) (S : Store) : Bool := decide (∀ p ∈ g, S[p.1]? = some p.2)
def guard (d : D) (S : Store) : Gd := match d with
  | .ref n => match S[n]? with
    | some c => [(n, c)]
    | none => []
  | _ => []
def upTo (i : Int) : Nat → List D
  | 0 => []
  | n + 1 => .int i :: upTo (i + 1) n
def dnTo (i : Int) : Nat → List D
  | 0 => []
  | n + 1 => .int i :: dnTo (i - 1) n
def seqIt (d : D) (S : Store) : Rs (List D × Gd) := match d with
  | .str s => .ok (s.map fun c => .str [c], []) S
  | d => match seqOf d S with
    | some l => .ok (l, guard d S) S
    | none => .bad
def rngIt (ds : List D) (S : Store) : Rs (List D × Gd) := match ds with
  | [.int j] => if j ≤ LIM ∧ -(LIM : Int) ≤ j then .ok (upTo 0 j.toNat, []) S else .bad
  | [.int i, .int j] => if j - i ≤ LIM ∧ i.natAbs < 2 ^ 61 ∧ j.natAbs < 2 ^ 61 then .ok (upTo i (j - i).toNat, []) S else .bad
  | [.int i, .int j, .int c] => if c = -1 ∧ i - j ≤ LIM ∧ i.natAbs < 2 ^ 61 ∧ j.natAbs < 2 ^ 61 then .ok (dnTo i (i - j).toNat, []) S else .bad
  | _ => .bad
def enmL (i : Int) : List D → List D
  | [] => []
  | d :: r => .tup [.int i, d] :: enmL (i + 1) r
def enmIt (d : D) (S : Store) : Rs (List D × Gd) := match seqOf d S with
  | some l => .ok (enmL 0 l, guard d S) S
  | none => .bad
def zipIt (d e : D) (S : Store) : Rs (List D × Gd) := match d, e with
  | .tup l, .tup r => .ok ((l.zip r).map fun p => .tup [p.1, p.2], []) S
  | d, e => match lstOf d S, lstOf e S with
    | some l, some r => .ok ((l.zip r).map fun p => .tup [p.1, p.2], guard d S ++ guard e S) S
    | _, _ => .bad
def revIt (d : D) (S : Store) : Rs (List D × Gd) := match seqOf d S with
  | some l => .ok (l.reverse, guard d S) S
  | none => .bad
def ofO {α : Type} (o : Option α) (S : Store) : Rs α := match o with
  | some a => .ok a S
  | none => .bad
/-- the items of a comprehension, one behind another; k: the new list's cell -/
def lcL (tg : Tg) (fc : Fr → Store → Rs Bool) (fe : Fr → Store → Rs D) (ρ : Fr) (g : Gd) (k : Nat) : List D → Store → Rs Unit
  | [], S => if gOk g S then .ok () S else .bad
  | d :: ds, S =>
    if gOk g S then
      match setT tg d ρ S with
      | some ρ1 => (fc ρ1 S).th fun b S1 =>
        if b then (fe ρ1 S1).th fun x S2 => match S2[k]? with
          | some (.lst acc) => if acc.length < LIM then lcL tg fc fe ρ g k ds (S2.set k (.lst (acc ++ [x]))) else .bad
          | _ => .bad
        else lcL tg fc fe ρ g k ds S1
      | none => .bad
    else .bad
def tgIx : Tg → List Nat
  | .nm i => [i]
  | .tp is => is
/-- .. of two: the inner items are looked up in each turn of the outer ones -/
def lcL2 (tg : Tg) (fc : Fr → Store → Rs Bool) (fw : Fr → Store → Rs (List D × Gd)) (tg2 : Tg) (fc2 : Fr → Store → Rs Bool) (fe : Fr → Store → Rs D) (ρ : Fr) (g : Gd) (k : Nat) : List D → Store → Rs Unit
  | [], S => if gOk g S then .ok () S else .bad
  | d :: ds, S =>
    if gOk g S then
      match setT tg d ρ S with
      | some ρ1 => (fc ρ1 S).th fun b S1 =>
        if b then (fw ρ1 S1).th fun p S2 => (lcL tg2 fc2 fe (wipe ρ1 (tgIx tg2)) p.2 k p.1 S2).th fun _ S3 => lcL2 tg fc fw tg2 fc2 fe ρ g k ds S3
        else lcL2 tg fc fw tg2 fc2 fe ρ g k ds S1
      | none => .bad
    else .bad
/-- .. its end -/
def lcE (m : Bool) (S S' : Store) : Rs D := match S'[S.length]? with
  | some (.lst l) => if m then .ok (.ref S.length) S' else if cutOk S S' && belowL S.length l then .ok (.lst l) (S'.take S.length) else .ok (.ref S.length) S'
  | _ => .bad
def pick {α : Type} (ds : List α) : List Nat → Option (List α)
  | [] => some []
  | i :: r => match ds[i]?, pick ds r with
    | some d, some l => some (d :: l)
    | _, _ => none

def isNo (n : Bool) (d : D) : Bool := match d with
  | .non => !n
  | _ => n
/-! #### expressions -/
mutual
def evE (C : Cs) : Ex → Fr → Store → Rs D
  | .var i, ρ, S => match ρ[i]? with
    | some (some d) => .ok d S
    | _ => .bad
  | .non, _, S => .ok .non S
  | .bl b, _, S => .ok (.bl b) S
  | .int i, _, S => .ok (.int i) S
  | .str s, _, S => .ok (.str s) S
  | .glb g, _, S => ofO C.T.glb[g]? S
  | .bin op m a b, ρ, S => (evE C a ρ S).th fun d S1 => (evE C b ρ S1).th fun e S2 => binD op m d e S2
  | .neg a, ρ, S => (evE C a ρ S).th fun d S1 => match d with
    | .int i => .ok (.int (-i)) S1
    | _ => .bad
  | .cmp op a b, ρ, S => (evE C a ρ S).th fun d S1 => (evE C b ρ S1).th fun e S2 => (ofO (cmpD op d e S2) S2).th fun k S3 => .ok (.bl k) S3
  | .chn o1 o2 a b c, ρ, S => (evE C a ρ S).th fun d S1 => (evE C b ρ S1).th fun e S2 => (ofO (cmpD o1 d e S2) S2).th fun k S3 =>
      if k then (evE C c ρ S3).th fun f S4 => (ofO (cmpD o2 e f S4) S4).th fun k2 S5 => .ok (.bl k2) S5 else .ok (.bl false) S3
  | .isN n a, ρ, S => (evE C a ρ S).th fun d S1 => .ok (.bl (isNo n d)) S1
  | .and a b, ρ, S => (evE C a ρ S).th fun d S1 => (ofO (truD d S1) S1).th fun k S2 => if k then evE C b ρ S2 else .ok d S2
  | .or a b, ρ, S => (evE C a ρ S).th fun d S1 => (ofO (truD d S1) S1).th fun k S2 => if k then .ok d S2 else evE C b ρ S2
  | .not a, ρ, S => (evE C a ρ S).th fun d S1 => (ofO (truD d S1) S1).th fun k S2 => .ok (.bl (!k)) S2
  | .ife c a b, ρ, S => (evT C c ρ S).th fun k S1 => if k then evE C a ρ S1 else evE C b ρ S1
  | .tup es, ρ, S => (evL C es ρ S).th fun ds S1 => .ok (.tup ds) S1
  | .lst m es, ρ, S => (evL C es ρ S).th fun ds S1 => mkL m ds S1
  | .idx a b, ρ, S => (evE C a ρ S).th fun d S1 => (evE C b ρ S1).th fun e S2 => ofO (idxD d e S2) S2
  | .slc m a lo hi, ρ, S => (evE C a ρ S).th fun d S1 => (evI C lo ρ S1).th fun l S2 => (evI C hi ρ S2).th fun h S3 => slcD m d l h S3
  | .att a f, ρ, S => (evE C a ρ S).th fun d S1 => ofO (attD C.T d f S1) S1
  | .call f es, ρ, S => (evL C es ρ S).th fun ds S1 => C.fn f ds S1
  | .calk f es ks pm, ρ, S => (evL C es ρ S).th fun ds S1 => (evL C ks ρ S1).th fun zs S2 => (ofO (pick (ds ++ zs) pm) S2).th fun ws S3 => C.fn f ws S3
  | .mak m c es, ρ, S => (evL C es ρ S).th fun ds S1 => makD C.T C.fn1 m c ds S1
  | .makk m c es ks pm, ρ, S => (evL C es ρ S).th fun ds S1 => (evL C ks ρ S1).th fun zs S2 => (ofO (pick (ds ++ zs) pm) S2).th fun ws S3 => makD C.T C.fn1 m c ws S3
  | .mth a f es, ρ, S => (evE C a ρ S).th fun d S1 => (ofO (mthOf C.T d f S1) S1).th fun k S2 => (evL C es ρ S2).th fun ds S3 => C.fn k (d :: ds) S3
  | .bi b m es, ρ, S => (evL C es ρ S).th fun ds S1 => biD b m ds S1
  | .isI a ts _, ρ, S => (evE C a ρ S).th fun d S1 => (ofO (isAny C.T d S1 ts) S1).th fun k S2 => .ok (.bl k) S2
  | .bm b a es, ρ, S => (evE C a ρ S).th fun d S1 => if bmOk b d S1 then (evL C es ρ S1).th fun ds S2 => bmD b d ds S2 else .bad
  | .lc m own tg it c e, ρ, S => (evW C it ρ S).th fun p S1 =>
      ((lcL tg (fun ρ S => evC C c ρ S) (fun ρ S => evE C e ρ S) (wipe ρ own) p.2 S1.length p.1 (S1 ++ [.lst []])).nox).th fun _ S2 => lcE m S1 S2
  | .lc2 m own tg it c tg2 it2 c2 e, ρ, S => (evW C it ρ S).th fun p S1 =>
      ((lcL2 tg (fun ρ S => evC C c ρ S) (fun ρ S => evW C it2 ρ S) tg2 (fun ρ S => evC C c2 ρ S) (fun ρ S => evE C e ρ S) (wipe ρ own) p.2 S1.length p.1 (S1 ++ [.lst []])).nox).th fun _ S2 => lcE m S1 S2
/-- as a test -/
def evT (C : Cs) : Ex → Fr → Store → Rs Bool
  | .and a b, ρ, S => (evT C a ρ S).th fun k S1 => if k then evT C b ρ S1 else .ok false S1
  | .or a b, ρ, S => (evT C a ρ S).th fun k S1 => if k then .ok true S1 else evT C b ρ S1
  | .not a, ρ, S => (evT C a ρ S).th fun k S1 => .ok (!k) S1
  | .cmp op a b, ρ, S => (evE C a ρ S).th fun d S1 => (evE C b ρ S1).th fun e S2 => ofO (cmpD op d e S2) S2
  | .chn o1 o2 a b c, ρ, S => (evE C a ρ S).th fun d S1 => (evE C b ρ S1).th fun e S2 => (ofO (cmpD o1 d e S2) S2).th fun k S3 =>
      if k then (evE C c ρ S3).th fun f S4 => ofO (cmpD o2 e f S4) S4 else .ok false S3
  | .isN n a, ρ, S => (evE C a ρ S).th fun d S1 => .ok (isNo n d) S1
  | .var i, ρ, S => match ρ[i]? with
    | some (some d) => ofO (truD d S) S
    | _ => .bad
  | .bl b, _, S => .ok b S
  | .call f es, ρ, S => (evL C es ρ S).th fun ds S1 => (C.fn f ds S1).th fun d S2 => ofO (truD d S2) S2
  | .calk f es ks pm, ρ, S => (evL C es ρ S).th fun ds S1 => (evL C ks ρ S1).th fun zs S2 => (ofO (pick (ds ++ zs) pm) S2).th fun ws S3 => (C.fn f ws S3).th fun d S4 => ofO (truD d S4) S4
  | .mth a f es, ρ, S => (evE C a ρ S).th fun d S1 => (ofO (mthOf C.T d f S1) S1).th fun k S2 => (evL C es ρ S2).th fun ds S3 => (C.fn k (d :: ds) S3).th fun d S4 => ofO (truD d S4) S4
  | .bi b m es, ρ, S => (evL C es ρ S).th fun ds S1 => (biD b m ds S1).th fun d S2 => ofO (truD d S2) S2
  | .isI a ts _, ρ, S => (evE C a ρ S).th fun d S1 => ofO (isAny C.T d S1 ts) S1
  | .idx a b, ρ, S => (evE C a ρ S).th fun d S1 => (evE C b ρ S1).th fun e S2 => (ofO (idxD d e S2) S2).th fun d S3 => ofO (truD d S3) S3
  | .att a f, ρ, S => (evE C a ρ S).th fun d S1 => (ofO (attD C.T d f S1) S1).th fun d S2 => ofO (truD d S2) S2
  | .bin op m a b, ρ, S => (evE C a ρ S).th fun d S1 => (evE C b ρ S1).th fun e S2 => (binD op m d e S2).th fun d S3 => ofO (truD d S3) S3
  | _, _, _ => .bad
def evL (C : Cs) : Exs → Fr → Store → Rs (List D)
  | .nil, _, S => .ok [] S
  | .cons e es, ρ, S => (evE C e ρ S).th fun d S1 => (evL C es ρ S1).th fun ds S2 => .ok (d :: ds) S2
/-- a slice's part -/
def evI (C : Cs) : Exo → Fr → Store → Rs (Option Int)
  | .no, _, S => .ok none S
  | .yes e, ρ, S => (evE C e ρ S).th fun d S1 => match d with
    | .int i => .ok (some i) S1
    | _ => .bad
/-- a comprehension's test -/
def evC (C : Cs) : Exo → Fr → Store → Rs Bool
  | .no, _, S => .ok true S
  | .yes e, ρ, S => evT C e ρ S
def evW (C : Cs) : Iter → Fr → Store → Rs (List D × Gd)
  | .seq e, ρ, S => (evE C e ρ S).th fun d S1 => seqIt d S1
  | .rng es, ρ, S => (evL C es ρ S).th fun ds S1 => rngIt ds S1
  | .enm e, ρ, S => (evE C e ρ S).th fun d S1 => enmIt d S1
  | .zip a b, ρ, S => (evE C a ρ S).th fun d S1 => (evE C b ρ S1).th fun e S2 => zipIt d e S2
  | .rev e, ρ, S => (evE C e ρ S).th fun d S1 => revIt d S1
end

/-! #### statements -/
inductive Os where
  | nx (ρ : Fr) (S : Store) | rt (d : D) (S : Store) | bk (ρ : Fr) (S : Store) | ct (ρ : Fr) (S : Store)
  | ex (c : Nat) (l : List D) (ρ : Fr) (S : Store)
  | bad
def Os.sq (r : Os) (k : Fr → Store → Os) (_t : Tag k := .mk) : Os := match r with
  | .nx ρ S => k ρ S
  | r => r
def Rs.os {α : Type} (r : Rs α) (ρ : Fr) (k : α → Store → Os) (_t : Tag k := .mk) : Os := match r with
  | .ok a S => k a S
  | .ex c l S => .ex c l ρ S
  | .bad => .bad
/-- a for over items -/
def forL (tg : Tg) (f : Fr → Store → Os) (g : Gd) : List D → Fr → Store → Os
  | [], ρ, S => if gOk g S then .nx ρ S else .bad
  | d :: ds, ρ, S =>
    if gOk g S then
      match setT tg d ρ S with
      | some ρ1 => match f ρ1 S with
        | .nx ρ2 S2 => forL tg f g ds ρ2 S2
        | .ct ρ2 S2 => forL tg f g ds ρ2 S2
        | .bk ρ2 S2 => .nx ρ2 S2
        | r => r
      | none => .bad
    else .bad
/-- at most n turns of a while (none: more are asked) -/
def whlN (c : Fr → Store → Rs Bool) (f : Fr → Store → Os) : Nat → Fr → Store → Option Os
  | 0, _, _ => none
  | n + 1, ρ, S => match c ρ S with
    | .ok true S1 => match f ρ S1 with
      | .nx ρ2 S2 => whlN c f n ρ2 S2
      | .ct ρ2 S2 => whlN c f n ρ2 S2
      | .bk ρ2 S2 => some (.nx ρ2 S2)
      | r => some r
    | .ok false S1 => some (.nx ρ S1)
    | .ex x l S1 => some (.ex x l ρ S1)
    | .bad => some .bad
def whl (c : Fr → Store → Rs Bool) (f : Fr → Store → Os) (ρ : Fr) (S : Store) : Os :=
  if h : ∃ n r, whlN c f n ρ S = some r then h.choose_spec.choose else .bad
/-- the names of a caught exception's fields -/
def excF (T : Tb) (c : Nat) : List Nat := T.exc.getD c []
def ancOf (T : Tb) (c : Nat) : List Nat := T.anc.getD c []
/-- what an except suite may be: one return of a plain expression; slot i is the exception -/
def evH (T : Tb) (c : Nat) (l : List D) (i : Option Nat) : Ex → Fr → Store → Rs D
  | .var j, ρ, S => if i = some j then .bad else match ρ[j]? with
    | some (some d) => .ok d S
    | _ => .bad
  | .non, _, S => .ok .non S
  | .bl b, _, S => .ok (.bl b) S
  | .int k, _, S => .ok (.int k) S
  | .str s, _, S => .ok (.str s) S
  | .att (.var j) f, ρ, S => if i = some j ∧ j < ρ.length then ofO (lookN f ((excF T c).zip l)) S else .bad
  | .tup es, ρ, S => (evHL T c l i es ρ S).th fun ds S1 => .ok (.tup ds) S1
  | _, _, _ => .bad
where evHL (T : Tb) (c : Nat) (l : List D) (i : Option Nat) : Exs → Fr → Store → Rs (List D)
  | .nil, _, S => .ok [] S
  | .cons e es, ρ, S => (evH T c l i e ρ S).th fun d S1 => (evHL T c l i es ρ S1).th fun ds S2 => .ok (d :: ds) S2
mutual
def exS (C : Cs) : St → Fr → Store → Os
  | .ex e, ρ, S => (evE C e ρ S).os ρ fun _ S1 => .nx ρ S1
  | .asg i e, ρ, S => (evE C e ρ S).os ρ fun d S1 => .nx (setS ρ i d) S1
  | .asgT is e, ρ, S => (evE C e ρ S).os ρ fun d S1 => match setT (.tp is) d ρ S1 with
    | some ρ1 => .nx ρ1 S1
    | none => .bad
  | .swp i j a b, ρ, S => (evE C a ρ S).os ρ fun d S1 => (evE C b ρ S1).os ρ fun e S2 => .nx (setS (setS ρ i d) j e) S2
  | .asgI o i e, ρ, S => (evE C e ρ S).os ρ fun x S1 => (evE C o ρ S1).os ρ fun d S2 => (evE C i ρ S2).os ρ fun k S3 => match setI d k x S3 with
    | some S4 => .nx ρ S4
    | none => .bad
  | .augN i sb e, ρ, S => (ofO (valS ρ i) S).os ρ fun x S0 => (evE C e ρ S0).os ρ fun y S1 => match augV sb x y with
    | some z => .nx (setS ρ i z) S1
    | none => .bad
  | .augI o i sb e, ρ, S => (evE C o ρ S).os ρ fun d S1 => (evE C i ρ S1).os ρ fun k S2 => (ofO (refIx d k S2) S2).os ρ fun x S3 => (evE C e ρ S3).os ρ fun y S4 => match augV sb x y with
    | some z => match setI d k z S4 with
      | some S5 => .nx ρ S5
      | none => .bad
    | none => .bad
  | .asg2 i j e, ρ, S => (evE C e ρ S).os ρ fun d S1 => .nx (setS (setS ρ i d) j d) S1
  | .asgA o f e, ρ, S => (evE C e ρ S).os ρ fun x S1 => (evE C o ρ S1).os ρ fun d S2 => match d with
    | .ref n => match S2[n]? with
      | some (.ins c fs) => if fs.length < 1000 ∧ (fldsOf C.T c).contains f then .nx ρ (S2.set n (.ins c (putN f x fs))) else .bad
      | _ => .bad
    | _ => .bad
  | .ret e, ρ, S => (evE C e ρ S).os ρ fun d S1 => .rt d S1
  | .retN, _, S => .rt .non S
  | .pas, ρ, S => .nx ρ S
  | .nev, _, _ => .bad
  | .brk, ρ, S => .bk ρ S
  | .cnt, ρ, S => .ct ρ S
  | .ife c a b, ρ, S => (evT C c ρ S).os ρ fun k S1 => if k then exSs C a ρ S1 else exSs C b ρ S1
  | .whl c b, ρ, S => whl (fun ρ S => evT C c ρ S) (fun ρ S => exSs C b ρ S) ρ S
  | .forr tg it b, ρ, S => (evW C it ρ S).os ρ fun p S1 => forL tg (fun ρ S => exSs C b ρ S) p.2 p.1 ρ S1
  | .rai c es, ρ, S => (evL C es ρ S).os ρ fun ds S1 => if ds.length = (excF C.T c).length ∧ ds.length = 1 then .ex c ds ρ S1 else .bad
  | .tryE b c i h, ρ, S => match exSs C b ρ S with
    | .ex x l ρ1 S1 => if (ancOf C.T x).contains c then (evH C.T x l i h (match i with
        | some j => ρ1.set j none
        | none => ρ1) S1).nox.os ρ1 fun d S2 => .rt d S2
      else .ex x l ρ1 S1
    | r => r
def exSs (C : Cs) : Sts → Fr → Store → Os
  | .nil, ρ, S => .nx ρ S
  | .cons s ss, ρ, S => (exS C s ρ S).sq fun ρ1 S1 => exSs C ss ρ1 S1
end

/-! #### defs -/
def startF (n : Nat) (ds : List D) : Fr := ds.map some ++ List.replicate (n - ds.length) none
def toR : Os → Rs D
  | .nx _ S => .ok .non S
  | .rt d S => .ok d S
  | .ex c l _ S => .ex c l S
  | _ => .bad
def runB (C : Cs) (f : Nat) (ds : List D) (S : Store) : Rs D := match C.T.fns[f]? with
  | some F => if ds.length = F.np then tidy F.fz S (toR (exSs C F.body (startF F.nv ds) S)) else .bad
  | none => .bad
def csOf (T : Tb) : Nat → Cs
  | 0 => ⟨T, fun _ _ _ => .bad, fun _ _ _ => .bad⟩
  | n + 1 => ⟨T, runB (csOf T n), (csOf T n).fn⟩
/-- a call at level n -/
def run (T : Tb) (n : Nat) : Nat → List D → Store → Rs D := (csOf T n).fn
theorem csOf_T (T : Tb) (n : Nat) : (csOf T n).T = T := by cases n <;> rfl
theorem csOf_fn (T : Tb) (n : Nat) : (csOf T n).fn = run T n := rfl
theorem csOf_fn1 (T : Tb) (n : Nat) : (csOf T (n + 1)).fn1 = run T n := rfl
theorem run_succ (T : Tb) (n f : Nat) (ds : List D) (S : Store) : run T (n + 1) f ds S = runB (csOf T n) f ds S := rfl
theorem run_zero (T : Tb) (f : Nat) (ds : List D) (S : Store) : run T 0 f ds S = .bad := rfl
end
end Ev
end
section
set_option maxRecDepth 100000
set_option maxHeartbeats 4000000
/-! Ev, part 2: does a text of the small language stand for a text of Python? -/
namespace Ev
open PySem
/-- the names -/
structure Nm where
  fns : List Str
  /-- calls with keywords: the def, how many values, the keywords, where each parameter is found -/
  kws : List (Nat × Nat × List Str × List Nat)
  cls : List Str
  /-- .. of classes -/
  ckw : List (Nat × Nat × List Str × List Nat)
  exc : List Str
  atts : List Str
  glb : List Str
/-- where an expression stands: the slots' names, the scope, the block's own scope (a comprehension) -/
structure Sx where
  N : List Str
  sc : Scope
  blk : Option Scope
def seeB (X : Sx) (i : Nat) (x : Str) : Bool := decide (X.N[i]? = some x) && !(x == ("__debug__" : Str)) && !(x == ("__classdict__" : Str)) && (match X.sc.names.lookup x with
  | some .local => true
  | some .cell => true
  | some .free => true
  | _ => false)
def putB (X : Sx) (i : Nat) (x : Str) : Bool := decide (X.N[i]? = some x) && (match X.sc.names.lookup x with
  | some .local => true
  | some .cell => (match X.blk with
    | none => true
    | some b => decide (b.names.lookup x = some .cell))
  | _ => false)
def gloB (X : Sx) (x : Str) : Bool := (match X.sc.names.lookup x with
  | some .globalImplicit => true
  | _ => false) && !(x == ("__debug__" : Str)) && !(x == ("__name__" : Str)) && !(x == ("super" : Str)) && !(x == ("" : Str))
def Op.of : Op → Operator
  | .add => .Add | .sub => .Sub | .mul => .Mult | .div => .FloorDiv | .mod => .Mod | .pow => .Pow | .shl => .LShift | .shr => .RShift
  | .band => .BitAnd | .bor => .BitOr | .bxor => .BitXor
def opB (o : Op) (p : Operator) : Bool := match o, p with
  | .add, .Add => true | .sub, .Sub => true | .mul, .Mult => true | .div, .FloorDiv => true | .mod, .Mod => true | .pow, .Pow => true
  | .shl, .LShift => true | .shr, .RShift => true | .band, .BitAnd => true | .bor, .BitOr => true | .bxor, .BitXor => true
  | _, _ => false
def Cp.of : Cp → CmpOp
  | .eq => .Eq | .ne => .NotEq | .lt => .Lt | .le => .LtE | .gt => .Gt | .ge => .GtE | .isIn => .In | .notIn => .NotIn
def cpB (o : Cp) (p : CmpOp) : Bool := match o, p with
  | .eq, .Eq => true | .ne, .NotEq => true | .lt, .Lt => true | .le, .LtE => true | .gt, .Gt => true | .ge, .GtE => true
  | .isIn, .In => true | .notIn, .NotIn => true
  | _, _ => false
def Bi.of : Bi → Str
  | .len => "len" | .abs => "abs" | .min => "min" | .max => "max" | .sum => "sum" | .sorted => "sorted" | .all => "all" | .any => "any"
  | .int => "int" | .str => "str" | .list => "list" | .tuple => "tuple" | .bool => "bool"
def Bm.of : Bm → Str
  | .append => "append" | .pop => "pop" | .extend => "extend" | .index => "index" | .bitLength => "bit_length"
def Bt.of : Bt → Str
  | .int => "int" | .bool => "bool" | .str => "str" | .tuple => "tuple" | .list => "list" | .dict => "dict"
def notSlice : Expr → Bool
  | .Slice _ _ _ _ => false
  | _ => true
def notTuple : Expr → Bool
  | .Tuple _ _ _ => false
  | _ => true
def notComp : Expr → Bool
  | .ListComp _ _ _ _ => false
  | .SetComp _ _ _ _ => false
  | .DictComp _ _ _ _ _ => false
  | _ => true
def tyB (M : Nm) (t : Ty) (X : Sx) (e : Expr) : Bool := match e with
  | .Name x _ => gloB X x && (match t with
    | .b t => decide (x = t.of)
    | .c k => decide (M.cls[k]? = some x))
  | _ => false
def tysB (M : Nm) (X : Sx) : List Ty → List Expr → Bool
  | [], [] => true
  | t :: r, e :: es => tyB M t X e && tysB M X r es
  | _, _ => false
def tgsB (X : Sx) : List Nat → List Expr → Bool
  | [], [] => true
  | i :: is, e :: es => (match e with
    | .Name x _ => putB X i x
    | _ => false) && tgsB X is es
  | _, _ => false
def tgB (X : Sx) (t : Tg) (e : Expr) : Bool := match t with
  | .nm i => (match e with
    | .Name x _ => putB X i x
    | _ => false)
  | .tp is => (match e with
    | .Tuple es _ _ => tgsB X is es
    | _ => false)
def kwN : List Keyword → List Str
  | [] => []
  | q :: qs => (q.arg.getD "") :: kwN qs
def kwE : List Keyword → List Expr
  | [] => []
  | q :: qs => q.value :: kwE qs
def kwAll (qs : List Keyword) : Bool := qs.all fun q => q.arg.isSome
mutual
def chkE (M : Nm) : Ex → Sx → Expr → Bool
  | .var i, X, e => (match e with
    | .Name x _ => seeB X i x
    | _ => false)
  | .non, X, e => (match e with
    | .Constant .none _ _ => true
    | _ => false)
  | .bl b, X, e => (match e with
    | .Constant (.bool c) _ _ => b == c
    | _ => false)
  | .int i, X, e => (match e with
    | .Constant (.int j) _ _ => decide (i = j)
    | _ => false)
  | .str s, X, e => (match e with
    | .Constant (.str x) _ _ => decide (x = ⟨s.toArray⟩)
    | _ => false)
  | .glb g, X, e => (match e with
    | .Name x _ => gloB X x && decide (M.glb[g]? = some x)
    | _ => false)
  | .bin op _ a b, X, e => (match e with
    | .BinOp x p y _ => opB op p && (chkE M a X x && chkE M b X y)
    | _ => false)
  | .neg a, X, e => (match e with
    | .UnaryOp .USub x _ => chkE M a X x
    | _ => false)
  | .cmp op a b, X, e => (match e with
    | .Compare x [p] [y] _ => cpB op p && (chkE M a X x && chkE M b X y)
    | _ => false)
  | .chn o1 o2 a b c, X, e => (match e with
    | .Compare x [p, q] [y, z] _ => cpB o1 p && (cpB o2 q && (chkE M a X x && (chkE M b X y && chkE M c X z)))
    | _ => false)
  | .isN n a, X, e => (match e with
    | .Compare x [p] [.Constant .none _ _] _ => (match n, p with
      | false, .Is => true
      | true, .IsNot => true
      | _, _ => false) && chkE M a X x
    | _ => false)
  | .and a b, X, e => (match e with
    | .BoolOp .And (x :: y :: r) p => chkE M a X x && chkE M b X (match r with
      | [] => y
      | z :: r => .BoolOp .And (y :: z :: r) p)
    | _ => false)
  | .or a b, X, e => (match e with
    | .BoolOp .Or (x :: y :: r) p => chkE M a X x && chkE M b X (match r with
      | [] => y
      | z :: r => .BoolOp .Or (y :: z :: r) p)
    | _ => false)
  | .not a, X, e => (match e with
    | .UnaryOp .Not x _ => chkE M a X x
    | _ => false)
  | .ife c a b, X, e => (match e with
    | .IfExp t x y _ => chkE M c X t && (chkE M a X x && chkE M b X y)
    | _ => false)
  | .tup es, X, e => (match e with
    | .Tuple l _ _ => decide (l.length ≤ LIM) && chkL M es X l
    | _ => false)
  | .lst _ es, X, e => (match e with
    | .List l _ => decide (l.length ≤ LIM) && chkL M es X l
    | _ => false)
  | .idx a b, X, e => (match e with
    | .Subscript x y _ => notSlice y && (chkE M a X x && chkE M b X y)
    | _ => false)
  | .slc _ a lo hi, X, e => (match e with
    | .Subscript x (.Slice l h none _) _ => chkE M a X x && (chkO M lo X l && chkO M hi X h)
    | _ => false)
  | .att a f, X, e => (match e with
    | .Attribute x n _ => decide (M.atts[f]? = some n) && chkE M a X x
    | _ => false)
  | .call f es, X, e => (match e with
    | .Call (.Name x _) l [] _ => gloB X x && (decide (M.fns[f]? = some x) && chkL M es X l)
    | _ => false)
  | .calk f es ks pm, X, e => (match e with
    | .Call (.Name x _) l qs _ => gloB X x && (decide (M.fns[f]? = some x) && (chkL M es X l && (chkL M ks X (kwE qs) && (kwAll qs && M.kws.contains (f, l.length, kwN qs, pm)))))
    | _ => false)
  | .makk _ c es ks pm, X, e => (match e with
    | .Call (.Name x _) l qs _ => gloB X x && (decide (M.cls[c]? = some x) && (chkL M es X l && (chkL M ks X (kwE qs) && (kwAll qs && M.ckw.contains (c, l.length, kwN qs, pm)))))
    | _ => false)
  | .mak _ c es, X, e => (match e with
    | .Call (.Name x _) l [] _ => gloB X x && (decide (M.cls[c]? = some x) && chkL M es X l)
    | _ => false)
  | .mth a f es, X, e => (match e with
    | .Call (.Attribute x n p) l [] q => decide (M.atts[f]? = some n) && (p.endLine == q.line && (chkE M a X x && (decide (l.length < 20) && chkL M es X l)))
    | _ => false)
  | .bi b _ es, X, e => (match e with
    | .Call (.Name x _) l [] _ => gloB X x && (decide (x = b.of) && chkL M es X l)
    | _ => false)
  | .isI a ts p, X, e => (match e with
    | .Call (.Name x _) [y, t] [] _ => gloB X x && (decide (x = "isinstance") && (chkE M a X y && (match p with
      | false => (match ts with
        | [ty] => tyB M ty X t
        | _ => false)
      | true => (match t with
        | .Tuple l _ _ => !ts.isEmpty && (decide (ts.length ≤ LIM) && tysB M X ts l)
        | _ => false))))
    | _ => false)
  | .bm b a es, X, e => (match e with
    | .Call (.Attribute x n p) l [] q => decide (n = b.of) && (p.endLine == q.line && (chkE M a X x && (decide (l.length < 20) && chkL M es X l)))
    | _ => false)
  | .lc _ own tg it c e0, X, e => (match e with
    | .ListComp x [⟨t, i, ifs, 0⟩] sc _ => L2.blkC X.N X.sc sc (own.map fun j => (X.N.getD j "", j)) && (tgB ⟨X.N, L2.relS sc X.sc, some sc⟩ tg t && ((match tg with
        | .nm j => own.contains j
        | .tp js => js.all own.contains) && (chkW M it X t i && (chkI M c ⟨X.N, L2.relS sc X.sc, some sc⟩ ifs && chkE M e0 ⟨X.N, L2.relS sc X.sc, some sc⟩ x))))
    | _ => false)
  | .lc2 _ own tg it c tg2 it2 c2 e0, X, e => (match e with
    | .ListComp x [⟨t, i, ifs, 0⟩, ⟨t2, i2, ifs2, 0⟩] sc _ => L2.blkC X.N X.sc sc (own.map fun j => (X.N.getD j "", j)) && (tgB ⟨X.N, L2.relS sc X.sc, some sc⟩ tg t && ((tgIx tg).all own.contains && (chkW M it X t i && (chkI M c ⟨X.N, L2.relS sc X.sc, some sc⟩ ifs && (tgB ⟨X.N, L2.relS sc X.sc, some sc⟩ tg2 t2 && ((tgIx tg2).all own.contains && (chkW M it2 ⟨X.N, L2.relS sc X.sc, some sc⟩ t2 i2 && (chkI M c2 ⟨X.N, L2.relS sc X.sc, some sc⟩ ifs2 && chkE M e0 ⟨X.N, L2.relS sc X.sc, some sc⟩ x))))))))
    | _ => false)
def chkL (M : Nm) : Exs → Sx → List Expr → Bool
  | .nil, X, l => l.isEmpty
  | .cons e es, X, l => (match l with
    | x :: r => chkE M e X x && chkL M es X r
    | [] => false)
def chkO (M : Nm) : Exo → Sx → Option Expr → Bool
  | .no, X, o => o.isNone
  | .yes e, X, o => (match o with
    | some x => chkE M e X x
    | none => false)
def chkI (M : Nm) : Exo → Sx → List Expr → Bool
  | .no, X, l => l.isEmpty
  | .yes e, X, l => (match l with
    | [x] => chkE M e X x
    | _ => false)
def chkW (M : Nm) : Iter → Sx → Expr → Expr → Bool
  | .seq e, X, _, x => chkE M e X x
  | .rng es, X, _, x => (match x with
    | .Call (.Name n _) l [] _ => gloB X n && (decide (n = "range") && ((decide (l.length = 1) || decide (l.length = 2) || decide (l.length = 3)) && chkL M es X l))
    | _ => false)
  | .enm e, X, t, x => (match x with
    | .Call (.Name n _) [y] [] _ => !(notTuple t) && gloB X n && (decide (n = "enumerate") && chkE M e X y)
    | _ => false)
  | .zip a b, X, t, x => (match x with
    | .Call (.Name n _) [y, z] [] _ => !(notTuple t) && gloB X n && (decide (n = "zip") && (chkE M a X y && chkE M b X z))
    | _ => false)
  | .rev e, X, _, x => (match x with
    | .Call (.Name n _) [y] [] _ => gloB X n && (decide (n = "reversed") && chkE M e X y)
    | _ => false)
end
/-- a, b = x, y: are the stores swapped (the library's swappedStores, of two names)? -/
def swpB (X : Sx) (x y : Str) (px py : Pos) (vs : List Expr) : Bool :=
  (match X.sc.names.lookup x with
  | some .local => true
  | _ => false) && (match X.sc.names.lookup y with
  | some .local => true
  | _ => false) && px.line == py.line && !(x == y) && !(vs.all (foldedForSure 8)) && !(vs.all (constantsAlone 8)) && !(vs.any fun | .Starred .. => true | _ => false)
/-- what a handler's expression may be -/
def hanE (X : Sx) (M : Nm) : Ex → Expr → Bool
  | .var i, e => (match e with
    | .Name x _ => seeB X i x
    | _ => false)
  | .non, e => (match e with
    | .Constant .none _ _ => true
    | _ => false)
  | .bl b, e => (match e with
    | .Constant (.bool c) _ _ => b == c
    | _ => false)
  | .int i, e => (match e with
    | .Constant (.int j) _ _ => decide (i = j)
    | _ => false)
  | .str s, e => (match e with
    | .Constant (.str x) _ _ => decide (x = ⟨s.toArray⟩)
    | _ => false)
  | .att (.var j) f, e => (match e with
    | .Attribute (.Name x _) n _ => seeB X j x && decide (M.atts[f]? = some n)
    | _ => false)
  | .tup es, e => (match e with
    | .Tuple l _ _ => decide (l.length ≤ LIM) && hanL X M es l
    | _ => false)
  | _, _ => false
where hanL (X : Sx) (M : Nm) : Exs → List Expr → Bool
  | .nil, l => l.isEmpty
  | .cons e es, l => (match l with
    | x :: r => hanE X M e x && hanL X M es r
    | [] => false)
/-- += or -= -/
def augB (sb : Bool) (op : Operator) : Bool := match sb, op with
  | false, .Add => true
  | true, .Sub => true
  | _, _ => false
mutual
def chkS (M : Nm) : St → Sx → Stmt → Bool
  | .ex e, X, s => (match s with
    | .Expr v _ => notComp v && chkE M e X v
    | _ => false)
  | .asg i e, X, s => (match s with
    | .Assign [.Name x _] v _ => putB X i x && chkE M e X v
    | _ => false)
  | .asgT is e, X, s => (match s with
    | .Assign [.Tuple l _ _] v _ => (match v with
        | .Tuple vs _ _ => vs.all (foldedForSure 8) || !(l.length == 2 || l.length == 3)
        | _ => true) && (tgsB X is l && chkE M e X v)
    | _ => false)
  | .swp i j a b, X, s => (match s with
    | .Assign [.Tuple [.Name x px, .Name y py] _ _] (.Tuple [v, w] _ _) _ => swpB X x y px py [v, w] && (putB X i x && (putB X j y && (!(i == j) && (chkE M a X v && chkE M b X w))))
    | _ => false)
  | .asgI o i e, X, s => (match s with
    | .Assign [.Subscript x y _] v _ => notSlice y && (chkE M o X x && (chkE M i X y && chkE M e X v))
    | _ => false)
  | .augN i sb e, X, s => (match s with
    | .AugAssign (.Name x _) op v _ => augB sb op && (putB X i x && chkE M e X v)
    | _ => false)
  | .augI o i sb e, X, s => (match s with
    | .AugAssign (.Subscript x y _) op v _ => augB sb op && (notSlice y && (chkE M o X x && (chkE M i X y && chkE M e X v)))
    | _ => false)
  | .asg2 i j e, X, s => (match s with
    | .Assign [.Name x _, .Name y _] v _ => putB X i x && (putB X j y && (notTuple v && chkE M e X v))
    | _ => false)
  | .asgA o f e, X, s => (match s with
    | .Assign [.Attribute x n _] v _ => decide (M.atts[f]? = some n) && (chkE M o X x && chkE M e X v)
    | _ => false)
  | .ret e, X, s => (match s with
    | .Return (some v) _ => chkE M e X v
    | _ => false)
  | .retN, X, s => (match s with
    | .Return none _ => true
    | _ => false)
  | .pas, X, s => (match s with
    | .Pass _ => true
    | _ => false)
  | .nev, _, _ => true
  | .brk, X, s => (match s with
    | .Break _ => true
    | _ => false)
  | .cnt, X, s => (match s with
    | .Continue _ => true
    | _ => false)
  | .ife c a b, X, s => (match s with
    | .If t x y _ => chkE M c X t && (chkSs M a X x && chkSs M b X y)
    | _ => false)
  | .whl c b, X, s => (match s with
    | .While t x [] _ => chkE M c X t && chkSs M b X x
    | _ => false)
  | .forr tg it b, X, s => (match s with
    | .For t i x [] _ => tgB X tg t && (chkW M it X t i && chkSs M b X x)
    | _ => false)
  | .rai c es, X, s => (match s with
    | .Raise (some (.Call (.Name x _) l [] _)) none _ => gloB X x && (decide (M.exc[c]? = some x) && chkL M es X l)
    | _ => false)
  | .tryE b c i h, X, s => (match s with
    | .Try x [.ExceptHandler (some (.Name n _)) o [.Return (some v) _] _] [] [] _ => gloB X n && (decide (M.exc[c]? = some n) && (chkSs M b X x && (hanE X M h v && (match i, o with
      | none, none => true
      | some j, some y => decide (X.N[j]? = some y) && decide (X.sc.names.lookup y = some .local)
      | _, _ => false))))
    | _ => false)
def chkSs (M : Nm) : Sts → Sx → List Stmt → Bool
  | .nil, X, l => l.isEmpty
  | .cons s ss, X, l => (match l with
    | x :: r => chkS M s X x && chkSs M ss X r
    | [] => false)
end
end Ev
end
section
set_option maxRecDepth 100000
set_option maxHeartbeats 4000000
/-! Ev, part 3: data and the heap. -/
namespace Ev
open PySem PySem.Spec PyProof.Rows L2
/-- the program, its names, where its classes stand -/
structure Pg where
  P : Program
  w : World
  K : PySem.W.Frag
  mg : Str → Option Value
  base : Heap
  M : Nm
  T : Tb
  ca : Nat → Addr
  xa : Nat → Addr
  fa : Nat → Addr
  fd : Nat → FuncData
  ps : Nat → List Str
def Pg.att (G : Pg) (f : Nat) : Str := match G.M.atts[f]? with
  | some x => x
  | none => ⟨Array.replicate (1000 + f) 0⟩
def KT (K : PySem.W.Frag) (a : Addr) (xs : List V) : Prop := ∃ (o : Obj) (its : Array Value) (n : Nat), K.lookup a = some o ∧ o.cls = .type "tuple" ∧ o.data = .seq its n ∧ its.size ≤ sizeLine ∧ Vals xs its.toList
/-- a frozen list, a tuple: no cell's, or of the written part -/
def FzL (m : List Addr) (H : Hp) (p : Addr) (vs : List V) : Prop := p ∉ m ∧ Rd H p (.lst vs)
def FzT (K : PySem.W.Frag) (m : List Addr) (H : Hp) (p : Addr) (vs : List V) : Prop := (p ∉ m ∧ Rd H p (.tup vs)) ∨ KT K p vs
def FzO (m : List Addr) (H : Hp) (p C : Addr) (fs : List (Str × V)) : Prop := p ∉ m ∧ ∃ dx, H p = some (.ins C dx fs)
def namesOf (G : Pg) (c : Nat) : List Str := (fldsOf G.T c).map G.att
mutual
/-- v stands for d -/
def Rep (G : Pg) (m : List Addr) (H : Hp) : D → V → Prop
  | .non, v => v = .non
  | .bl b, v => v = .bl b
  | .int i, v => v = .int i
  | .str s, v => v = .str ⟨s.toArray⟩
  | .tup l, v => ∃ p vs, v = .ref p ∧ FzT G.K m H p vs ∧ RepL G m H l vs
  | .lst l, v => ∃ p vs, v = .ref p ∧ FzL m H p vs ∧ RepL G m H l vs
  | .ref n, v => ∃ p, v = .ref p ∧ m[n]? = some p
  | .obj c l, v => ∃ p vs, v = .ref p ∧ FzO m H p (G.ca c) ((namesOf G c).zip vs) ∧ RepL G m H l vs
def RepL (G : Pg) (m : List Addr) (H : Hp) : List D → List V → Prop
  | [], vs => vs = []
  | d :: l, vs => ∃ v r, vs = v :: r ∧ Rep G m H d v ∧ RepL G m H l r
end
def RepC (G : Pg) (m : List Addr) (H : Hp) : Cell → Addr → Prop
  | .lst l, p => ∃ vs, H p = some (.lst vs) ∧ RepL G m H l vs
  | .ins c fs, p => ∃ dx vs, H p = some (.ins (G.ca c) dx ((fs.map fun f => G.att f.1).zip vs)) ∧ RepL G m H (fs.map (·.2)) vs
/-- the cells stand at the addresses m -/
structure RS (G : Pg) (m : List Addr) (H : Hp) (S : Store) : Prop where
  len : m.length = S.length
  nd : m.Nodup
  cel : ∀ (n : Nat) (c : Cell), S[n]? = some c → ∃ p, m[n]? = some p ∧ RepC G m H c p
structure RE (G : Pg) (m : List Addr) (H : Hp) (ρ : Fr) (σ : L2.St) : Prop where
  len : ρ.length = σ.length
  at_ : ∀ (i : Nat) (d : D), ρ[i]? = some (some d) → ∃ v, σ[i]? = some (some v) ∧ Rep G m H d v
/-- what stood stands; new cells behind the old ones -/
structure Ext (m : List Addr) (H : Hp) (m' : List Addr) (H' : Hp) : Prop where
  pre : m <+: m'
  keep : ∀ a o, H a = some o → a ∉ m → H' a = some o ∧ a ∉ m'
section
variable {G : Pg} {m m' m2 : List Addr} {H H' H2 : Hp} {S S' : Store} {ρ : Fr} {σ : L2.St}
theorem Ext.refl : Ext m H m H := ⟨List.prefix_refl _, fun _ _ h n => ⟨h, n⟩⟩
theorem Ext.trans (a : Ext m H m' H') (b : Ext m' H' m2 H2) : Ext m H m2 H2 :=
  ⟨a.pre.trans b.pre, fun c o h n => let ⟨h1, n1⟩ := a.keep c o h n; b.keep c o h1 n1⟩
theorem pre_get {n : Nat} {p : Addr} (a : m <+: m') (h : m[n]? = some p) : m'[n]? = some p := by
  obtain ⟨r, rfl⟩ := a
  have hl : n < m.length := (List.getElem?_eq_some_iff.mp h).1
  rw [List.getElem?_append_left hl]
  exact h
theorem rd_keep {p : Addr} {u : HO} (x : Ext m H m' H') (h : p ∉ m ∧ Rd H p u) : p ∉ m' ∧ Rd H' p u := by
  obtain ⟨n, h | ⟨o, h⟩⟩ := h
  · obtain ⟨h1, n1⟩ := x.keep _ _ h n
    exact ⟨n1, .inl h1⟩
  · obtain ⟨h1, n1⟩ := x.keep _ _ h n
    exact ⟨n1, .inr ⟨o, h1⟩⟩
theorem FzL.mono {p : Addr} {vs : List V} (x : Ext m H m' H') (h : FzL m H p vs) : FzL m' H' p vs := rd_keep x h
theorem FzT.mono {K : PySem.W.Frag} {p : Addr} {vs : List V} (x : Ext m H m' H') (h : FzT K m H p vs) : FzT K m' H' p vs := h.imp (rd_keep x) id
theorem FzO.mono {p C : Addr} {fs : List (Str × V)} (x : Ext m H m' H') (h : FzO m H p C fs) : FzO m' H' p C fs := by
  obtain ⟨n, dx, h⟩ := h
  obtain ⟨h1, n1⟩ := x.keep _ _ h n
  exact ⟨n1, dx, h1⟩
mutual
theorem Rep.mono (x : Ext m H m' H') : ∀ (d : D) (v : V), Rep G m H d v → Rep G m' H' d v
  | .non, _, h => by simp only [Rep] at h ⊢; exact h
  | .bl _, _, h => by simp only [Rep] at h ⊢; exact h
  | .int _, _, h => by simp only [Rep] at h ⊢; exact h
  | .str _, _, h => by simp only [Rep] at h ⊢; exact h
  | .tup l, _, h => by
    simp only [Rep] at h ⊢
    obtain ⟨p, vs, e, f, r⟩ := h
    exact ⟨p, vs, e, f.mono x, RepL.mono x l vs r⟩
  | .lst l, _, h => by
    simp only [Rep] at h ⊢
    obtain ⟨p, vs, e, f, r⟩ := h
    exact ⟨p, vs, e, f.mono x, RepL.mono x l vs r⟩
  | .ref n, _, h => by
    simp only [Rep] at h ⊢
    obtain ⟨p, e, r⟩ := h
    exact ⟨p, e, pre_get x.pre r⟩
  | .obj c l, _, h => by
    simp only [Rep] at h ⊢
    obtain ⟨p, vs, e, f, r⟩ := h
    exact ⟨p, vs, e, f.mono x, RepL.mono x l vs r⟩
theorem RepL.mono (x : Ext m H m' H') : ∀ (l : List D) (vs : List V), RepL G m H l vs → RepL G m' H' l vs
  | [], _, h => by simp only [RepL] at h ⊢; exact h
  | d :: l, _, h => by
    simp only [RepL] at h ⊢
    obtain ⟨v, r, e, h1, h2⟩ := h
    exact ⟨v, r, e, Rep.mono x d v h1, RepL.mono x l r h2⟩
end
theorem RE.mono (x : Ext m H m' H') (h : RE G m H ρ σ) : RE G m' H' ρ σ :=
  ⟨h.len, fun i d e => let ⟨v, e1, r⟩ := h.at_ i d e; ⟨v, e1, Rep.mono x d v r⟩⟩
theorem RepL.length : ∀ {l : List D} {vs : List V}, RepL G m H l vs → l.length = vs.length
  | [], _, h => by simp only [RepL] at h; subst h; rfl
  | d :: l, _, h => by
    simp only [RepL] at h
    obtain ⟨v, r, rfl, _, h2⟩ := h
    simp [RepL.length h2]
theorem RepL.get : ∀ {l : List D} {vs : List V} {i : Nat} {d : D}, RepL G m H l vs → l[i]? = some d → ∃ v, vs[i]? = some v ∧ Rep G m H d v
  | [], _, _, _, _, e => by simp at e
  | d :: l, _, 0, _, h, e => by
    simp only [RepL] at h
    obtain ⟨v, r, rfl, h1, _⟩ := h
    simp at e; subst e
    exact ⟨v, rfl, h1⟩
  | d :: l, _, i + 1, _, h, e => by
    simp only [RepL] at h
    obtain ⟨v, r, rfl, _, h2⟩ := h
    simp at e
    obtain ⟨u, e1, q⟩ := RepL.get h2 e
    exact ⟨u, by simpa using e1, q⟩
theorem RepL.nil : RepL G m H [] [] := by simp only [RepL]
theorem RepL.cons {d : D} {l : List D} {v : V} {vs : List V} (h : Rep G m H d v) (r : RepL G m H l vs) : RepL G m H (d :: l) (v :: vs) := by
  simp only [RepL]; exact ⟨v, vs, rfl, h, r⟩
theorem RepL.append : ∀ {l k : List D} {vs us : List V}, RepL G m H l vs → RepL G m H k us → RepL G m H (l ++ k) (vs ++ us)
  | [], _, _, _, h, q => by simp only [RepL] at h; subst h; exact q
  | d :: l, _, _, _, h, q => by
    simp only [RepL] at h
    obtain ⟨v, r, rfl, h1, h2⟩ := h
    exact RepL.cons h1 (RepL.append h2 q)
theorem RepL.take : ∀ {l : List D} {vs : List V} (n : Nat), RepL G m H l vs → RepL G m H (l.take n) (vs.take n)
  | _, _, 0, _ => RepL.nil
  | [], _, n + 1, h => by simp only [RepL] at h; subst h; exact RepL.nil
  | d :: l, _, n + 1, h => by
    simp only [RepL] at h
    obtain ⟨v, r, rfl, h1, h2⟩ := h
    exact RepL.cons h1 (RepL.take n h2)
theorem RepL.drop : ∀ {l : List D} {vs : List V} (n : Nat), RepL G m H l vs → RepL G m H (l.drop n) (vs.drop n)
  | _, _, 0, h => h
  | [], _, n + 1, h => by simp only [RepL] at h; subst h; exact RepL.nil
  | d :: l, _, n + 1, h => by
    simp only [RepL] at h
    obtain ⟨v, r, rfl, h1, h2⟩ := h
    exact RepL.drop n h2
theorem RepL.set {d : D} {v : V} (q : Rep G m H d v) : ∀ {l : List D} {vs : List V} (n : Nat), RepL G m H l vs → RepL G m H (l.set n d) (vs.set n v)
  | [], _, _, h => by simp only [RepL] at h; subst h; exact RepL.nil
  | e :: l, _, 0, h => by
    simp only [RepL] at h
    obtain ⟨u, r, rfl, h1, h2⟩ := h
    exact RepL.cons q h2
  | e :: l, _, n + 1, h => by
    simp only [RepL] at h
    obtain ⟨u, r, rfl, h1, h2⟩ := h
    exact RepL.cons h1 (RepL.set q n h2)
theorem RepL.reverse : ∀ {l : List D} {vs : List V}, RepL G m H l vs → RepL G m H l.reverse vs.reverse
  | [], _, h => by simp only [RepL] at h; subst h; exact RepL.nil
  | d :: l, _, h => by
    simp only [RepL] at h
    obtain ⟨v, r, rfl, h1, h2⟩ := h
    rw [List.reverse_cons, List.reverse_cons]
    exact RepL.append (RepL.reverse h2) (RepL.cons h1 RepL.nil)
theorem RepL.dropLast {l : List D} {vs : List V} (h : RepL G m H l vs) : RepL G m H l.dropLast vs.dropLast := by
  rw [List.dropLast_eq_take, List.dropLast_eq_take, ← h.length]
  exact RepL.take _ h
theorem RepL.cut {l : List D} {vs : List V} (lo hi : Option Int) (h : RepL G m H l vs) : RepL G m H (cut l lo hi) (cutV vs lo hi) := by
  have e : ∀ n d o, sIx n d o = HT.sIx n d o := fun n d o => by cases o <;> rfl
  unfold Ev.cut cutV
  rw [h.length]
  simp only [e]
  exact RepL.take _ (RepL.drop _ h)
/-! what may be read -/
theorem sq_of {K : PySem.W.Frag} {p : Addr} {vs : List V} (h : Rd H p (.lst vs)) : SqL K H p vs := .inl h
theorem FzT.sq {K : PySem.W.Frag} {p : Addr} {vs : List V} (h : FzT K m H p vs) : SqT K H p vs := h.imp (·.2) id
theorem Rep.int_inv {i : Int} {v : V} (h : Rep G m H (.int i) v) : v = .int i := by simpa only [Rep] using h
theorem Rep.bl_inv {b : Bool} {v : V} (h : Rep G m H (.bl b) v) : v = .bl b := by simpa only [Rep] using h
theorem Rep.non_inv {v : V} (h : Rep G m H .non v) : v = .non := by simpa only [Rep] using h
theorem Rep.str_inv {s : List Nat} {v : V} (h : Rep G m H (.str s) v) : v = .str ⟨s.toArray⟩ := by simpa only [Rep] using h
theorem Rep.tup_inv {l : List D} {v : V} (h : Rep G m H (.tup l) v) : ∃ p vs, v = .ref p ∧ FzT G.K m H p vs ∧ RepL G m H l vs := by simpa only [Rep] using h
theorem Rep.lst_inv {l : List D} {v : V} (h : Rep G m H (.lst l) v) : ∃ p vs, v = .ref p ∧ FzL m H p vs ∧ RepL G m H l vs := by simpa only [Rep] using h
theorem Rep.ref_inv {n : Nat} {v : V} (h : Rep G m H (.ref n) v) : ∃ p, v = .ref p ∧ m[n]? = some p := by simpa only [Rep] using h
theorem Rep.obj_inv {c : Nat} {l : List D} {v : V} (h : Rep G m H (.obj c l) v) : ∃ p vs, v = .ref p ∧ FzO m H p (G.ca c) ((namesOf G c).zip vs) ∧ RepL G m H l vs := by simpa only [Rep] using h
theorem rep_int {i : Int} : Rep G m H (.int i) (.int i) := by simp only [Rep]
theorem rep_bl {b : Bool} : Rep G m H (.bl b) (.bl b) := by simp only [Rep]
theorem rep_non : Rep G m H .non .non := by simp only [Rep]
theorem rep_str {s : List Nat} : Rep G m H (.str s) (.str ⟨s.toArray⟩) := by simp only [Rep]
theorem rep_tup {l : List D} {p : Addr} {vs : List V} (f : FzT G.K m H p vs) (r : RepL G m H l vs) : Rep G m H (.tup l) (.ref p) := by
  simp only [Rep]; exact ⟨p, vs, rfl, f, r⟩
theorem rep_lst {l : List D} {p : Addr} {vs : List V} (f : FzL m H p vs) (r : RepL G m H l vs) : Rep G m H (.lst l) (.ref p) := by
  simp only [Rep]; exact ⟨p, vs, rfl, f, r⟩
theorem rep_ref {n : Nat} {p : Addr} (h : m[n]? = some p) : Rep G m H (.ref n) (.ref p) := by
  simp only [Rep]; exact ⟨p, rfl, h⟩
theorem rep_obj {c : Nat} {l : List D} {p : Addr} {vs : List V} (f : FzO m H p (G.ca c) ((namesOf G c).zip vs)) (r : RepL G m H l vs) : Rep G m H (.obj c l) (.ref p) := by
  simp only [Rep]; exact ⟨p, vs, rfl, f, r⟩
/-- a list, frozen or a cell's, is to be read -/
theorem lstOf_sq {d : D} {v : V} {l : List D} (rs : RS G m H S) (h : Rep G m H d v) (e : lstOf d S = some l) : ∃ p vs, v = .ref p ∧ Rd H p (.lst vs) ∧ RepL G m H l vs := by
  unfold lstOf at e
  split at e
  · cases e
    obtain ⟨p, vs, rfl, f, r⟩ := h.lst_inv
    exact ⟨p, vs, rfl, f.2, r⟩
  · rename_i n
    split at e
    · rename_i l' q
      cases e
      obtain ⟨p, rfl, hp⟩ := h.ref_inv
      obtain ⟨p', hp', vs, hv, r⟩ := rs.cel _ _ q
      rw [hp] at hp'; cases hp'
      exact ⟨p, vs, rfl, .inl hv, r⟩
    · cases e
  · cases e
theorem seqOf_sq {d : D} {v : V} {l : List D} (rs : RS G m H S) (h : Rep G m H d v) (e : seqOf d S = some l) : ∃ p vs, v = .ref p ∧ (Rd H p (.lst vs) ∨ SqT G.K H p vs) ∧ RepL G m H l vs := by
  unfold seqOf at e
  split at e
  · cases e
    obtain ⟨p, vs, rfl, f, r⟩ := h.tup_inv
    exact ⟨p, vs, rfl, .inr f.sq, r⟩
  · cases e
    obtain ⟨p, vs, rfl, f, r⟩ := h.lst_inv
    exact ⟨p, vs, rfl, .inl f.2, r⟩
  · rename_i n
    split at e
    · rename_i l' q
      cases e
      obtain ⟨p, rfl, hp⟩ := h.ref_inv
      obtain ⟨p', hp', vs, hv, r⟩ := rs.cel _ _ q
      rw [hp] at hp'; cases hp'
      exact ⟨p, vs, rfl, .inl (.inl hv), r⟩
    · cases e
  · cases e
theorem RS.mono_of (rs : RS G m H S) (x : Ext m H m H') (k : ∀ p ∈ m, H' p = H p) : RS G m H' S :=
  ⟨rs.len, rs.nd, fun n c e => by
    obtain ⟨p, hp, q⟩ := rs.cel n c e
    have hk := k p (List.mem_of_getElem? hp)
    refine ⟨p, hp, ?_⟩
    cases c with
    | lst l =>
      obtain ⟨vs, h1, r⟩ := q
      exact ⟨vs, by rw [hk]; exact h1, RepL.mono x _ _ r⟩
    | ins c fs =>
      obtain ⟨dx, vs, h1, r⟩ := q
      exact ⟨dx, vs, by rw [hk]; exact h1, RepL.mono x _ _ r⟩⟩
/-- something new is laid that is no cell -/
theorem Ext.new {p : Addr} {o : HO} (n : H p = none) : Ext m H m (upd H p o) :=
  ⟨List.prefix_refl _, fun a u h na => ⟨by rw [upd_ne (ne_of_none h n)]; exact h, na⟩⟩
theorem RS.there (rs : RS G m H S) {p : Addr} (h : p ∈ m) : ∃ o, H p = some o := by
  obtain ⟨n, hn, e⟩ := List.getElem_of_mem h
  have hS : n < S.length := by rw [← rs.len]; exact hn
  obtain ⟨p', hp', q⟩ := rs.cel n S[n] (List.getElem?_eq_getElem hS)
  have e2 : p' = p := by
    rw [List.getElem?_eq_getElem hn] at hp'
    exact (Option.some.inj hp').symm.trans e
  subst e2
  cases hc : S[n] with
  | lst l =>
    rw [hc] at q
    obtain ⟨vs, h1, _⟩ := q
    exact ⟨_, h1⟩
  | ins c fs =>
    rw [hc] at q
    obtain ⟨dx, vs, h1, _⟩ := q
    exact ⟨_, h1⟩
theorem RS.fresh (rs : RS G m H S) {p : Addr} (n : H p = none) : p ∉ m := fun h => by
  obtain ⟨o, e⟩ := rs.there h
  rw [n] at e; cases e
theorem RS.new {p : Addr} {o : HO} (rs : RS G m H S) (n : H p = none) : RS G m (upd H p o) S :=
  rs.mono_of (Ext.new n) fun q hq => upd_ne fun e => by subst e; exact rs.fresh n hq
/-- a new cell -/
theorem Ext.cell {p : Addr} {o : HO} (n : H p = none) : Ext m H (m ++ [p]) (upd H p o) :=
  ⟨List.prefix_append _ _, fun a u h na => ⟨by rw [upd_ne (ne_of_none h n)]; exact h, by
    rw [List.mem_append, List.mem_singleton]
    rintro (z | z)
    · exact na z
    · exact ne_of_none h n z⟩⟩
theorem Rep.wider {d : D} {v : V} (x : Ext m H m' H') (h : Rep G m H d v) : Rep G m' H' d v := Rep.mono x d v h
theorem RepC.mono {c : Cell} {p : Addr} (x : Ext m H m' H') (hk : H' p = H p) (h : RepC G m H c p) : RepC G m' H' c p := by
  cases c with
  | lst l =>
    obtain ⟨vs, h1, r⟩ := h
    exact ⟨vs, by rw [hk]; exact h1, RepL.mono x _ _ r⟩
  | ins c fs =>
    obtain ⟨dx, vs, h1, r⟩ := h
    exact ⟨dx, vs, by rw [hk]; exact h1, RepL.mono x _ _ r⟩
theorem RS.cell {p : Addr} {o : HO} {c : Cell} (rs : RS G m H S) (n : H p = none) (h : RepC G (m ++ [p]) (upd H p o) c p) : RS G (m ++ [p]) (upd H p o) (S ++ [c]) := by
  have hp := rs.fresh n
  refine ⟨by simp [rs.len], ?_, fun k c' e => ?_⟩
  · rw [List.nodup_append]
    refine ⟨rs.nd, by simp, fun a ha b hb => ?_⟩
    rw [List.mem_singleton] at hb
    subst hb
    exact fun e => hp (e ▸ ha)
  · by_cases hk : k < S.length
    · rw [List.getElem?_append_left hk] at e
      obtain ⟨q, hq, r⟩ := rs.cel k c' e
      refine ⟨q, by rw [List.getElem?_append_left (by rw [rs.len]; exact hk)]; exact hq, RepC.mono (Ext.cell n) (upd_ne fun z => ?_) r⟩
      subst z
      exact hp (List.mem_of_getElem? hq)
    · have e1 : k = S.length := by
        have := (List.getElem?_eq_some_iff.mp e).1
        simp at this
        omega
      subst e1
      simp at e
      subst e
      exact ⟨p, by rw [← rs.len]; simp, h⟩
/-- a cell is written -/
theorem Ext.write {p : Addr} {o : HO} (h : p ∈ m) : Ext m H m (upd H p o) :=
  ⟨List.prefix_refl _, fun a u e na => ⟨by rw [upd_ne (show a ≠ p from fun z => na (by rw [z]; exact h))]; exact e, na⟩⟩
theorem RS.write {p : Addr} {o : HO} {n : Nat} {c : Cell} (rs : RS G m H S) (hp : m[n]? = some p) (h : RepC G m (upd H p o) c p) : RS G m (upd H p o) (S.set n c) := by
  have hm : p ∈ m := List.mem_of_getElem? hp
  refine ⟨by simp [rs.len], rs.nd, fun k c' e => ?_⟩
  by_cases hk : k = n
  · subst hk
    have hl : k < S.length := by rw [← rs.len]; exact (List.getElem?_eq_some_iff.mp hp).1
    rw [List.getElem?_set_self hl] at e
    cases e
    exact ⟨p, hp, h⟩
  · rw [List.getElem?_set_ne (Ne.symm hk)] at e
    obtain ⟨q, hq, r⟩ := rs.cel k c' e
    refine ⟨q, hq, RepC.mono (Ext.write hm) (upd_ne fun z => hk ?_) r⟩
    subst z
    have h1 := (List.getElem?_eq_some_iff.mp hq)
    have h2 := (List.getElem?_eq_some_iff.mp hp)
    obtain ⟨l1, e1⟩ := h1
    obtain ⟨l2, e2⟩ := h2
    exact (List.getElem_inj rs.nd).mp (e1.trans e2.symm)
theorem RE.set {i : Nat} {d : D} {v : V} (h : RE G m H ρ σ) (r : Rep G m H d v) : RE G m H (setS ρ i d) (σ.set i (some v)) := by
  refine ⟨by simp [setS, h.len], fun j e hj => ?_⟩
  unfold setS at hj
  by_cases hij : j = i
  · subst hij
    have hl : j < ρ.length := by
      have := (List.getElem?_eq_some_iff.mp hj).1
      simpa using this
    rw [List.getElem?_set_self hl] at hj
    cases hj
    exact ⟨v, by rw [List.getElem?_set_self (by rw [← h.len]; exact hl)], r⟩
  · rw [List.getElem?_set_ne (Ne.symm hij)] at hj
    obtain ⟨u, e1, r1⟩ := h.at_ j e hj
    exact ⟨u, by rw [List.getElem?_set_ne (Ne.symm hij)]; exact e1, r1⟩
theorem RE.gone {i : Nat} (h : RE G m H ρ σ) (o : Option V) : RE G m H (ρ.set i none) (σ.set i o) := by
  refine ⟨by simp [h.len], fun j e hj => ?_⟩
  by_cases hij : j = i
  · subst hij
    have hl : j < ρ.length := by
      have := (List.getElem?_eq_some_iff.mp hj).1
      simpa using this
    rw [List.getElem?_set_self hl] at hj
    cases hj
  · rw [List.getElem?_set_ne (Ne.symm hij)] at hj
    obtain ⟨u, e1, r1⟩ := h.at_ j e hj
    exact ⟨u, by rw [List.getElem?_set_ne (Ne.symm hij)]; exact e1, r1⟩
theorem RE.wipe : ∀ (is : List Nat), RE G m H ρ σ → RE G m H (Ev.wipe ρ is) (L2.wipe σ is)
  | [], h => h
  | i :: is, h => (RE.wipe is h).gone none
end
end Ev
end
section
set_option maxRecDepth 100000
set_option maxHeartbeats 4000000
/-! Ev, part 4: operations on values. -/
namespace Ev
open PySem PySem.Spec PyProof.Rows L2
/-- what is wanted of a result that raises nothing -/
def FinV (G : Pg) {α β : Type} (R : List Addr → Hp → α → β → Prop) (m : List Addr) (H : Hp) (r : Rs α) (Q : β → Hp → Prop) : Prop := match r with
  | .ok a S' => ∀ m' H' v, Ext m H m' H' → RS G m' H' S' → R m' H' a v → Q v H'
  | _ => False
/-- an exception's dict -/
def XRep (G : Pg) (m : List Addr) (H : Hp) (c : Nat) (l : List D) (dx : Addr) : Prop :=
  ∃ vs, H dx = some (.xd (((excF G.T c).map G.att).zip vs)) ∧ RepL G m H l vs ∧ l.length = (excF G.T c).length ∧ c < G.T.exc.length
/-- .. of any result -/
def Fin (G : Pg) (W : WX) (σ : L2.St) {α β : Type} (R : List Addr → Hp → α → β → Prop) (m : List Addr) (H : Hp) (r : Rs α) (K : α → Store → List Addr → Hp → β → Prop) : Prop := match r with
  | .ok a S' => ∀ m' H' v, Ext m H m' H' → RS G m' H' S' → R m' H' a v → K a S' m' H' v
  | .ex c l S' => ∀ m' H' dx, Ext m H m' H' → RS G m' H' S' → XRep G m' H' c l dx → W (.ref (G.xa c)) (some dx) σ H'
  | .bad => False
section
variable {G : Pg} {W : WX} {σ : L2.St} {m m' : List Addr} {H H' : Hp} {S : Store}
theorem Fin.ext {α β : Type} {R : List Addr → Hp → α → β → Prop} {r : Rs α} {K : α → Store → List Addr → Hp → β → Prop} (x : Ext m H m' H') (h : Fin G W σ R m H r K) : Fin G W σ R m' H' r K := by
  cases r with
  | ok a S' => exact fun m2 H2 v x2 => h m2 H2 v (x.trans x2)
  | ex c l S' => exact fun m2 H2 dx x2 => h m2 H2 dx (x.trans x2)
  | bad => exact h
theorem Fin.th {α β γ δ : Type} {R : List Addr → Hp → α → β → Prop} {R' : List Addr → Hp → γ → δ → Prop} {r : Rs α} {k : α → Store → Rs γ} {t : Tag k} {K : γ → Store → List Addr → Hp → δ → Prop}
    (h : Fin G W σ R' m H (r.th k t) K) : Fin G W σ R m H r fun a S' m' H' _ => Fin G W σ R' m' H' (k a S') K := by
  cases r with
  | ok a S' => exact fun m' H' v x _ _ => Fin.ext x h
  | ex c l S' => exact h
  | bad => exact h
theorem Fin.imp {α β : Type} {R : List Addr → Hp → α → β → Prop} {r : Rs α} {K K' : α → Store → List Addr → Hp → β → Prop} (h : Fin G W σ R m H r K) (k : ∀ a S' m' H' v, Ext m H m' H' → RS G m' H' S' → R m' H' a v → K a S' m' H' v → K' a S' m' H' v) : Fin G W σ R m H r K' := by
  cases r with
  | ok a S' => exact fun m' H' v x rs q => k a S' m' H' v x rs q (h m' H' v x rs q)
  | ex c l S' => exact h
  | bad => exact h
/-- a result that is no exception -/
def NoEx {α : Type} (r : Rs α) : Prop := ∀ c l S, r ≠ .ex c l S
theorem Fin.toV {α β : Type} {R : List Addr → Hp → α → β → Prop} {r : Rs α} {Q : β → Hp → Prop} (n : NoEx r) (h : Fin G W σ R m H r fun _ _ _ H' v => Q v H') : FinV G R m H r Q := by
  cases r with
  | ok a S' => exact h
  | ex c l S' => exact absurd rfl (n c l S')
  | bad => exact h
theorem noEx_mkL (b : Bool) (l : List D) (S : Store) : NoEx (mkL b l S) := by
  intro c k S'; unfold mkL; cases b <;> simp
theorem noEx_ofO {α : Type} (o : Option α) (S : Store) : NoEx (ofO o S) := by
  intro c k S'; unfold ofO; cases o <;> simp
theorem noEx_bin (op : Op) (b : Bool) (d e : D) (S : Store) : NoEx (binD op b d e S) := by
  intro c k S' h
  unfold binD at h
  repeat' split at h
  all_goals first
    | (cases h; done)
    | exact noEx_mkL _ _ _ _ _ _ h
theorem fin_mk {b : Bool} {l : List D} {vs : List V} {p : Addr} {Q : VK} (rs : RS G m H S) (r : RepL G m H l vs) (n : H p = none) (h : FinV G (Rep G) m H (mkL b l S) Q) : Q (.ref p) (upd H p (.lst vs)) := by
  cases b with
  | false => exact h m _ _ (Ext.new n) (rs.new n) (rep_lst ⟨rs.fresh n, .inl upd_same⟩ (RepL.mono (Ext.new n) _ _ r))
  | true => exact h (m ++ [p]) _ _ (Ext.cell n) (rs.cell n ⟨vs, upd_same, RepL.mono (Ext.cell n) _ _ r⟩) (rep_ref (by rw [← rs.len]; simp))
theorem fin_tup {l : List D} {vs : List V} {p : Addr} {Q : VK} (rs : RS G m H S) (r : RepL G m H l vs) (n : H p = none) (h : FinV G (Rep G) m H (.ok (.tup l) S) Q) : Q (.ref p) (upd H p (.tup vs)) :=
  h m _ _ (Ext.new n) (rs.new n) (rep_tup (.inl ⟨rs.fresh n, .inl upd_same⟩) (RepL.mono (Ext.new n) _ _ r))
theorem fin_same {α β : Type} {R : List Addr → Hp → α → β → Prop} {a : α} {v : β} {Q : β → Hp → Prop} (rs : RS G m H S) (r : R m H a v) (h : FinV G R m H (.ok a S) Q) : Q v H := h m H v Ext.refl rs r
end
theorem lim : LIM = sizeLine := by rw [sizeLine_eq]; rfl
/-- an operation on two values -/
def rBin (G : Pg) (op : Op) (b : Bool) : R2 := fun x y H Q => ∃ m S d e, RS G m H S ∧ Rep G m H d x ∧ Rep G m H e y ∧ FinV G (Rep G) m H (binD op b d e S) Q
section
variable {G : Pg} {X : Cx}
theorem rd_lst {pins : List (Addr × Obj)} {σ : L2.St} {H : Hp} {s : Shared} {l : Addr} {xs : List V} (I : Inv X pins σ H s) (hH : Rd H l (.lst xs)) :
    xs.length ≤ sizeLine ∧ ∃ (its : List Value) (n : Nat), Vals xs its ∧ xs.length = its.length ∧ s.heap.get? l = some { cls := .type "list", data := .seq its.toArray n } := by
  have q : ObjOk X.prog X.w H s.heap l (.lst xs) := hH.ok I.hok
  obtain ⟨z, its, n, r, e⟩ := q
  exact ⟨z, its, n, r, r.length, e⟩
/-- list + list -/
theorem op_catR : OpR X (binaryOp .Add) (fun x y H Q => ∃ l b xs zs, x = .ref l ∧ y = .ref b ∧ Rd H l (.lst xs) ∧ Rd H b (.lst zs) ∧ xs.length + zs.length ≤ sizeLine ∧ ∀ p, H p = none → Q (.ref p) (upd H p (.lst (xs ++ zs)))) := by
  intro pins s σ H x y v u Q I rx ry h
  obtain ⟨l, b, xs, zs, rfl, rfl, hl, hb, hz, q⟩ := h
  cases rx
  cases ry
  obtain ⟨_, its, n, r, e1, e⟩ := rd_lst I hl
  obtain ⟨_, its2, n2, r2, e3, e4⟩ := rd_lst I hb
  have hs : its.toArray.size + its2.toArray.size ≤ sizeLine := by simp only [List.size_toArray]; omega
  refine PySem.P.add_list e e4 ?_ hs
  rw [show its.toArray ++ its2.toArray = (its ++ its2).toArray by simp]
  have hn : H s.heap.objs.size = none := I.hok.fresh (Nat.le_refl _)
  exact ⟨.ref _, _, Inv.lnew (t' := s.toks) I (r.append r2) (by simp only [List.length_append]; omega), rfl, q _ hn⟩
theorem wd_log {k : Nat} (h : k < Wd) : k.log2 < 4001 := by
  unfold Wd at h
  by_cases z : k = 0
  · subst z; decide
  · have := (Nat.log2_lt z).mpr h
    omega
theorem op_ar (op : Op) : OpR X (binaryOp op.of) (fun x y H Q => ∃ i j k, x = .int i ∧ y = .int j ∧ arI op i j = some k ∧ Q (.int k) H) := by
  intro pins s σ H x y v u Q I rx ry ⟨i, j, k, ex, ey, ek, q⟩
  cases op with
  | add => cases ek; exact op_add pins s σ H x y v u Q I rx ry ⟨i, j, ex, ey, q⟩
  | sub => cases ek; exact op_sub pins s σ H x y v u Q I rx ry ⟨i, j, ex, ey, q⟩
  | mul =>
    simp only [arI] at ek
    split at ek
    · rename_i hb
      cases ek
      refine op_mulW pins s σ H x y v u Q I rx ry ⟨i, j, ex, ey, ?_, q⟩
      have h1 := wd_log hb.1
      have h2 := wd_log hb.2
      show i.natAbs.log2 + j.natAbs.log2 < 1000000
      omega
    · cases ek
  | div =>
    simp only [arI] at ek
    split at ek
    · rename_i hb
      cases ek
      refine op_fdivW pins s σ H x y v u Q I rx ry ⟨i, j, ex, ey, ⟨hb.1, ?_⟩, q⟩
      have h2 := wd_log hb.2
      omega
    · cases ek
  | mod =>
    simp only [arI] at ek
    split at ek
    · rename_i hb
      cases ek
      exact op_mod pins s σ H x y v u Q I rx ry ⟨i, j, ex, ey, hb, q⟩
    · cases ek
  | pow =>
    simp only [arI] at ek
    split at ek
    · rename_i hb
      cases ek
      exact op_pow pins s σ H x y v u Q I rx ry ⟨i, j, ex, ey, hb, q⟩
    · cases ek
  | shl =>
    simp only [arI] at ek
    split at ek
    · rename_i hb
      cases ek
      exact op_shl pins s σ H x y v u Q I rx ry ⟨i, j, ex, ey, hb, q⟩
    · cases ek
  | shr =>
    simp only [arI] at ek
    split at ek
    · rename_i hb
      cases ek
      exact op_shr pins s σ H x y v u Q I rx ry ⟨i, j, ex, ey, hb, q⟩
    · cases ek
  | band => cases ek; exact op_and pins s σ H x y v u Q I rx ry ⟨i, j, ex, ey, q⟩
  | bor => cases ek; exact op_or pins s σ H x y v u Q I rx ry ⟨i, j, ex, ey, q⟩
  | bxor => cases ek; exact op_xor pins s σ H x y v u Q I rx ry ⟨i, j, ex, ey, q⟩
theorem str_app (s t : List Nat) : (⟨s.toArray⟩ : Str) ++ (⟨t.toArray⟩ : Str) = ⟨(s ++ t).toArray⟩ := by
  show (⟨s.toArray ++ t.toArray⟩ : Str) = _
  simp
theorem str_len (s : List Nat) : (⟨s.toArray⟩ : Str).length = s.length := by
  show s.toArray.size = _
  simp
theorem cat_lists (hK : X.K = G.K) {b : Bool} {pins : List (Addr × Obj)} {s : Shared} {σ : L2.St} {H : Hp} {x y : V} {v u : Value} {Q : VK} {m : List Addr} {S : Store} {d e : D} {l k : List D} (I : Inv X pins σ H s) (rx : RelV x v) (ry : RelV y u) (rs : RS G m H S) (rd : Rep G m H d x) (re : Rep G m H e y)
    (e1 : lstOf d S = some l) (e2 : lstOf e S = some k) (hz : l.length + k.length ≤ LIM) (h : FinV G (Rep G) m H (mkL b (l ++ k) S) Q) : wpAny (model X.prog X.w) X.A (binaryOp .Add v u) (EP X pins σ Q) X.xe s := by
  obtain ⟨p, vs, rfl, hp, r⟩ := lstOf_sq rs rd e1
  obtain ⟨q, us, rfl, hq, r2⟩ := lstOf_sq rs re e2
  refine op_catR pins s σ H _ _ v u Q I rx ry ⟨p, q, vs, us, rfl, rfl, hp, hq, ?_, fun a n => fin_mk rs (r.append r2) n h⟩
  rw [← r.length, ← r2.length, ← lim]
  exact hz
theorem cat_any (hK : X.K = G.K) {op : Op} {b : Bool} {pins : List (Addr × Obj)} {s : Shared} {σ : L2.St} {H : Hp} {x y : V} {v u : Value} {Q : VK} {m : List Addr} {S : Store} {d e : D} (I : Inv X pins σ H s) (rx : RelV x v) (ry : RelV y u) (rs : RS G m H S) (rd : Rep G m H d x) (re : Rep G m H e y)
    (h : FinV G (Rep G) m H (match op, lstOf d S, lstOf e S with
    | .add, some s, some t => if s.length + t.length ≤ LIM then mkL b (s ++ t) S else .bad
    | _, _, _ => .bad) Q) : wpAny (model X.prog X.w) X.A (binaryOp op.of v u) (EP X pins σ Q) X.xe s := by
  split at h
  · rename_i l k e1 e2
    split at h
    · rename_i hz
      exact cat_lists hK I rx ry rs rd re e1 e2 hz h
    · exact h.elim
  · exact h.elim
theorem op_bin (hK : X.K = G.K) (op : Op) (b : Bool) : OpR X (binaryOp op.of) (rBin G op b) := by
  intro pins s σ H x y v u Q I rx ry ⟨m, S, d, e, rs, rd, re, h⟩
  unfold binD at h
  split at h
  · rename_i i j
    cases ek : arI op i j with
    | none => rw [ek] at h; exact h.elim
    | some k =>
      rw [ek] at h
      exact op_ar op pins s σ H x y v u Q I rx ry ⟨i, j, k, rd.int_inv, re.int_inv, ek, fin_same rs rep_int h⟩
  · rename_i a c
    split at h
    · split at h
      · rename_i hz
        refine op_add_str pins s σ H x y v u Q I rx ry ⟨_, _, rd.str_inv, re.str_inv, ?_, ?_⟩
        · rw [str_len, str_len, ← lim]; exact hz
        · rw [str_app]
          exact fin_same rs rep_str h
      · exact h.elim
    · exact h.elim
  · rename_i a c
    split at h
    · split at h
      · rename_i hz
        obtain ⟨p, vs, rfl, fp, r⟩ := rd.tup_inv
        obtain ⟨q, us, rfl, fq, r2⟩ := re.tup_inv
        refine op_catA pins s σ H _ _ v u Q I rx ry ⟨p, q, vs, us, rfl, rfl, by rw [hK]; exact fp.sq, by rw [hK]; exact fq.sq, ?_, fun e0 => ?_, fun _ e1 => ?_, fun _ _ z n => fin_tup rs (r.append r2) n h⟩
        · rw [← r.length, ← r2.length, ← lim]; exact hz
        · subst e0
          have e3 : a = [] := List.eq_nil_of_length_eq_zero (by rw [r.length]; rfl)
          subst e3
          exact fin_same rs (rep_tup fq r2) h
        · subst e1
          have e3 : c = [] := List.eq_nil_of_length_eq_zero (by rw [r2.length]; rfl)
          subst e3
          exact fin_same rs (rep_tup fp (by rw [List.append_nil]; exact r)) h
      · exact h.elim
    · exact h.elim
  · exact cat_any hK I rx ry rs rd re h
end
end Ev
end
section
set_option maxRecDepth 100000
set_option maxHeartbeats 4000000
/-! Ev: sorted of tuples of whole numbers, by a list or a tuple. -/
namespace Ev
open PySem PySem.Spec PyProof.Rows L2
theorem lexL_asym : ∀ l r : List Int, lexL l r = true → lexL r l = false
  | [], [], h => by simp [lexL] at h
  | [], _ :: _, _ => rfl
  | _ :: _, [], h => by simp [lexL] at h
  | x :: l, y :: r, h => by
    simp only [lexL] at h ⊢
    by_cases e : x = y
    · rw [if_pos e] at h
      rw [if_pos e.symm]
      exact lexL_asym l r h
    · rw [if_neg e, decide_eq_true_eq] at h
      rw [if_neg (Ne.symm e), decide_eq_false_iff_not]
      omega
theorem lexL_tr : ∀ l r q : List Int, lexL r l = false → lexL q r = false → lexL q l = false
  | [], _, [], _, _ => rfl
  | [], [], _ :: _, _, _ => rfl
  | [], _ :: _, _ :: _, _, _ => rfl
  | _ :: _, [], _, h, _ => by simp [lexL] at h
  | _ :: _, _ :: _, [], _, h => by simp [lexL] at h
  | x :: l, y :: r, z :: q, h1, h2 => by
    simp only [lexL] at h1 h2 ⊢
    by_cases e1 : y = x
    · rw [if_pos e1] at h1
      subst e1
      by_cases e2 : z = y
      · rw [if_pos e2] at h2 ⊢
        exact lexL_tr l r q h1 h2
      · rw [if_neg e2] at h2 ⊢
        exact h2
    · rw [if_neg e1, decide_eq_false_iff_not] at h1
      by_cases e2 : z = y
      · subst e2
        rw [if_neg e1, decide_eq_false_iff_not]
        exact h1
      · rw [if_neg e2, decide_eq_false_iff_not] at h2
        rw [if_neg (by omega), decide_eq_false_iff_not]
        omega
theorem lexL_eq : ∀ l r : List Int, lexL l r = false → lexL r l = false → l = r
  | [], [], _, _ => rfl
  | [], _ :: _, h, _ => by simp [lexL] at h
  | _ :: _, [], _, h => by simp [lexL] at h
  | x :: l, y :: r, h1, h2 => by
    simp only [lexL] at h1 h2
    by_cases e : x = y
    · rw [if_pos e] at h1
      rw [if_pos e.symm] at h2
      rw [e, lexL_eq l r h1 h2]
    · rw [if_neg e, decide_eq_false_iff_not] at h1
      rw [if_neg (Ne.symm e), decide_eq_false_iff_not] at h2
      omega
theorem insT_perm (x : List Int) : ∀ l, (insT x l).Perm (x :: l)
  | [] => List.Perm.refl _
  | y :: r => by
    unfold insT
    split
    · exact List.Perm.refl _
    · exact ((insT_perm x r).cons y).trans (List.Perm.swap x y r)
theorem sortT_perm : ∀ l, (sortT l).Perm l
  | [] => List.Perm.refl _
  | x :: r => (insT_perm x (sortT r)).trans ((sortT_perm r).cons x)
theorem insT_sorted (x : List Int) : ∀ l : List (List Int), l.Pairwise (fun a b => lexL b a = false) → (insT x l).Pairwise (fun a b => lexL b a = false)
  | [], _ => List.pairwise_singleton _ _
  | y :: r, h => by
    obtain ⟨h1, h2⟩ := List.pairwise_cons.mp h
    unfold insT
    split
    · rename_i e
      refine List.pairwise_cons.mpr ⟨fun z hz => ?_, h⟩
      rcases List.mem_cons.mp hz with rfl | hz
      · exact e
      · exact lexL_tr _ _ _ e (h1 z hz)
    · rename_i e
      refine List.pairwise_cons.mpr ⟨fun z hz => ?_, insT_sorted x r h2⟩
      rcases List.mem_cons.mp ((insT_perm x r).mem_iff.mp hz) with rfl | hz
      · exact lexL_asym _ _ (by simpa using e)
      · exact h1 z hz
theorem sortT_sorted : ∀ l, (sortT l).Pairwise (fun a b => lexL b a = false)
  | [] => List.Pairwise.nil
  | x :: r => insT_sorted x _ (sortT_sorted r)
theorem sortT_uniq {l r : List (List Int)} (p : r.Perm l) (s : r.Pairwise (fun a b => lexL b a = false)) : r = sortT l :=
  List.Perm.eq_of_pairwise (fun a b _ _ h1 h2 => lexL_eq a b h2 h1) s (sortT_sorted l) (p.trans (sortT_perm l).symm)
theorem swo_lexL (k : Value → List Int) : SrtO.Swo fun v u => lexL (k v) (k u) := ⟨fun _ _ h => lexL_asym _ _ h, fun _ _ _ h1 h2 => lexL_tr _ _ _ h1 h2⟩
/-- a tuple of ints -/
def IsIT (h : Heap) (v : Value) (l : List Int) : Prop := ∃ a o its n, v = .ref a ∧ h.get? a = some o ∧ o.cls = .type "tuple" ∧ o.data = .seq its n ∧ IntsAre its.toList l
theorem IsIT.keeps {h h' : Heap} {v : Value} {l : List Int} (p : IsIT h v l) (k : ∀ b o, h.get? b = some o → o.cls = .type "tuple" → h'.get? b = some o) : IsIT h' v l := by
  obtain ⟨a, o, its, n, e, ho, hc, hd, hi⟩ := p
  exact ⟨a, o, its, n, e, k a o ho hc, hc, hd, hi⟩
section
variable {prog : Program} {w : World} {A : Around} {E : Value → Shared → Prop} {s : Shared}
theorem lex_kat {fin : Bool} {Q : Bool → Shared → Prop} : ∀ (xs ys : List Value) (l r : List Int) (i : Nat), IntsAre xs l → IntsAre ys r → fin = decide (xs.length < ys.length) → Q (lexL l r) s → PySem.W.KatLex prog w A true fin Q (xs.zip ys) i s
  | [], [], _, _, _, .nil, .nil, hf, h => PySem.W.kat_nil (by subst hf; exact h)
  | [], _ :: _, _, _, _, .nil, .cons _ _ _, hf, h => PySem.W.kat_nil (by subst hf; simpa [lexL] using h)
  | _ :: _, [], _, _, _, .cons _ _ _, .nil, hf, h => PySem.W.kat_nil (by subst hf; simpa [lexL] using h)
  | _ :: xs, _ :: ys, _, _, i, .cons (ns := l) x t hx, .cons (ns := r) y u hy, hf, h => by
    rw [List.zip_cons_cons]
    refine PySem.W.kat_cons (SeqAt.EqAt.int_int x t y u prog w _ _ ?_)
    simp only [lexL] at h
    refine PySem.W.kat_go (fun e => ?_) (fun e => ?_)
    · have ex : x = y := by simpa using e
      rw [if_pos ex] at h
      exact PySem.W.kat_yes (lex_kat xs ys l r (i + 1) hx hy (by rw [hf]; simp) h)
    · have ex : ¬ x = y := by simpa using e
      rw [if_neg ex] at h
      refine PySem.W.kat_no ?_
      cases i with
      | zero => exact oneLt_int h
      | succ i => exact PySem.W.kat_one _ _ (PyProof.Rows.lt_int h)
theorem tup_cmp {vs : List Value} {k : Value → List Int} (hp : ∀ v ∈ vs, IsIT s.heap v (k v)) : SrtO.Cmp prog w A s (tuples' true) (fun p => p.1 ∈ vs) (SrtO.lt2 fun v u => lexL (k v) (k u)) := by
  intro p q hm hm'
  obtain ⟨a, o, its, n, e, ho, hc, hd, hi⟩ := hp _ hm
  obtain ⟨a', o', its', n', e', ho', hc', hd', hi'⟩ := hp _ hm'
  show wpAny (model prog w) A (keyLt' (tuples' true) p.1 q.1) (fun r s' => s' = s ∧ r = lexL (k p.1) (k q.1)) (fun _ _ => False) s
  generalize k p.1 = x at hi ⊢
  generalize k q.1 = y at hi' ⊢
  rw [e, e']
  refine PySem.W.kat_lt ho hd ho' hd' ?_
  exact lex_kat _ _ _ _ 0 hi hi' (by simp) ⟨rfl, rfl⟩
theorem tup_firsts {h : Heap} {k : Value → List Int} : ∀ {vs : List Value}, (∀ v ∈ vs, IsIT h v (k v) ∧ k v ≠ []) → ∃ fs : List Value, PySem.W.KatTups h vs fs ∧ fs.length = vs.length ∧ ∀ f ∈ fs, ∃ x t, f = Value.int x t
  | [], _ => ⟨[], .nil, rfl, fun _ z => absurd z (by simp)⟩
  | v :: vs, hp => by
    obtain ⟨fs, h1, h2, h3⟩ := tup_firsts (vs := vs) fun v' hm => hp v' (List.mem_cons_of_mem _ hm)
    obtain ⟨⟨a, o, its, n, e, ho, hc, hd, hi⟩, hne⟩ := hp v List.mem_cons_self
    obtain ⟨x, t, us, ea⟩ : ∃ x t us, its = ⟨Value.int x t :: us⟩ := by
      cases its with
      | mk us =>
        generalize k v = l at hi hne
        cases hi with
        | nil => exact absurd rfl hne
        | cons x t r => exact ⟨x, t, _, rfl⟩
    subst ea
    refine ⟨.int x t :: fs, ?_, by simp [h2], ?_⟩
    · rw [e]
      exact .cons ho hc hd (by simp) h1
    · intro f hf
      rcases List.mem_cons.mp hf with rfl | hf
      · exact ⟨x, t, rfl⟩
      · exact h3 f hf
theorem tups_sortable {a : Addr} {vs : List Value} {k : Value → List Int} (h0 : 0 < vs.length) (hp : ∀ v ∈ vs, IsIT s.heap v (k v) ∧ k v ≠ []) (ha : ∀ o, s.heap.get? a = some o → o.cls ≠ .type "tuple") : SrtO.SortableO prog w A s a vs fun v u => lexL (k v) (k u) := by
  intro h' keep
  have hp' : ∀ v ∈ vs, IsIT h' v (k v) ∧ k v ≠ [] := fun v hm => ⟨(hp v hm).1.keeps fun b o e c => keep b o (fun z => by subst z; exact ha o e c) e, (hp v hm).2⟩
  obtain ⟨fs, h1, h2, h3⟩ := tup_firsts hp'
  refine ⟨tuples' true, fun Q E hq => ?_, tup_cmp fun v hm => (hp' v hm).1⟩
  refine PySem.W.kat_kind (T := .type "int") h1 (by omega) (fun f hm => ?_) (by rfl) ?_
  · obtain ⟨x, t, rfl⟩ := h3 f hm
    exact PySem.W.Looks.now
  · have e : (Value.type "int" != Value.type "tuple") = true := by first | decide +kernel | rfl | decide
    rw [e]
    exact hq
/-- a list or a tuple is collected -/
theorem collect_lt {l : Addr} {vs : List Value} {T : String} {n : Nat} {o : Obj} {Q : List Value → Shared → Prop} (hT : T = "list" ∨ T = "tuple") (ho : s.heap.get? l = some o) (hc : o.cls = .type T) (hd : o.data = .seq vs.toArray n)
    (h : Q vs { s with heap := (s.heap.push (seqObj "list" #[] 0)).update s.heap.objs.size (Obj.mapSeq (· ++ vs.toArray)) }) (hsz : vs.length ≤ sizeLine) :
    wpAny (model prog w) A (collect (.ref l)) Q E s := by
  unfold collect
  refine wpAny_bind (wpAny_runValue (codeAny_builtin entry_proto_collect' ?_))
  show wpAny _ _ (do again (.builtin "list.__iadd__" ⟨[← newList [], .ref l], []⟩)) _ _ s
  refine wpAny_bind (wpAny_newList (wpAny_pure ⟨Code.quiet_builtin _ (by decide +kernel), codeAny_builtin entry_list_iadd' ?_⟩))
  show wpAny _ _ (Builtin.List.listExtendWith (.ref s.heap.objs.size) (.ref l) (.ref s.heap.objs.size)) _ _ { s with heap := s.heap.push (seqObj "list" #[] 0) }
  unfold Builtin.List.listExtendWith
  have ho' : (s.heap.push (seqObj "list" #[] 0)).get? l = some o := Heap.get?_push_of_some _ ho
  refine wpAny_bind (wpAny_typeOf (T := T) ⟨o, ho', hc⟩ ?_)
  have ht : (Builtin.List.listSameRef (.ref s.heap.objs.size) (.ref l) || Value.type T == Value.type "list" || Value.type T == Value.type "tuple") = true := by
    rcases hT with rfl | rfl
    · rw [show (Value.type "list" == Value.type "list") = true by rfl]; simp
    · rw [show (Value.type "tuple" == Value.type "tuple") = true by rfl]; simp
  rw [if_pos ht]
  refine wpAny_bind (listItems_at ho' hd ?_); refine wpAny_bind (listItems_at (xs := #[]) (n := 0) (Heap.get?_push_size _ rfl) rfl ?_)
  rw [if_neg (by simp)]
  refine wpAny_bind (listUpdate_at (xs := #[]) (n := 0) (Heap.get?_push_size _ rfl) rfl ?_ (Nat.zero_le _) (by show (#[] ++ vs.toArray).size ≤ sizeLine + 1; simp only [Array.size_append, List.size_toArray, List.length_nil]; omega)); refine wpAny_pure ?_
  show wpAny (model prog w) A (do
      let o ← load s.heap.objs.size
      match o.data with
      | .seq xs _ => pure xs.toList
      | _ => unsupported "internal:collect") Q E { s with heap := (s.heap.push (seqObj "list" #[] 0)).update s.heap.objs.size (Obj.mapSeq (· ++ vs.toArray)) }
  refine wpAny_bind (wpAny_load (get?_update_seq (Heap.get?_push_size _ rfl) _) ?_)
  show wpAny _ _ (pure ((#[] : Array Value) ++ vs.toArray).toList) Q E _
  rw [show ((#[] : Array Value) ++ vs.toArray).toList = vs by simp]
  exact wpAny_pure h
/-- sorted(x), x a list or a tuple: a new list -/
theorem sorted_seqO {l : Addr} {vs : List Value} {T : String} {n : Nat} {o : Obj} {ltv : Value → Value → Bool} {Q : Value → Shared → Prop} (O : SrtO.Swo ltv) (hT : T = "list" ∨ T = "tuple") (ho : s.heap.get? l = some o) (hc : o.cls = .type T) (hd : o.data = .seq vs.toArray n) (hz : vs.length ≤ sizeLine)
    (hS : 2 ≤ vs.length → ∀ (h₁ : Heap) (a : Addr), h₁.get? a = some (seqObj "list" vs.toArray 0) → (∀ b o, s.heap.get? b = some o → b ≠ a ∧ h₁.get? b = some o) → SrtO.SortableO prog w A.in1.in1 { s with heap := h₁ } a vs ltv)
    (h : ∀ (h' : Heap) (d : Addr) (out : List Value), SrtO.Srtd ltv out → SrtO.Stb ltv out vs → (∀ b o, s.heap.get? b = some o → h'.get? b = some o) → s.heap.objs.size ≤ d → (∃ n, h'.get? d = some (seqObj "list" out.toArray n)) → Q (.ref d) { s with heap := h' }) :
    wpAny (model prog w) A (call (.builtin "sorted") [.ref l]) Q E s := by
  refine Calls.call_function_entry kind_sorted plain_sorted entry_sorted (args_sorted1 _) ?_
  unfold Builtin.«sorted»
  refine wpAny_bind (m := checkCount "sorted" 1 1 _) (wpAny_pure ?_); refine wpAny_bind (collect_lt hT ho hc hd ?_ hz)
  have sz1 : ((s.heap.push (seqObj "list" #[] 0)).update s.heap.objs.size (Obj.mapSeq (· ++ vs.toArray))).objs.size = s.heap.objs.size + 1 := by
    rw [Heap.size_update, size_push']
  have k1 : ∀ b o, s.heap.get? b = some o → ((s.heap.push (seqObj "list" #[] 0)).update s.heap.objs.size (Obj.mapSeq (· ++ vs.toArray))).get? b = some o := fun b o q => by
    rw [Heap.get?_update_ne _ _ _ _ (Nat.ne_of_lt (Heap.lt_size q))]
    exact Heap.get?_push_of_some _ q
  revert sz1 k1
  generalize (s.heap.push (seqObj "list" #[] 0)).update s.heap.objs.size (Obj.mapSeq (· ++ vs.toArray)) = h1
  intro sz1 k1
  refine wpAny_bind (wpAny_newList ?_ hz)
  have hoL : (h1.push (seqObj "list" vs.toArray 0)).get? h1.objs.size = some (seqObj "list" vs.toArray 0) := Heap.get?_push_size _ rfl
  have keep : ∀ b o, s.heap.get? b = some o → b ≠ h1.objs.size ∧ (h1.push (seqObj "list" vs.toArray 0)).get? b = some o := fun b o q => by
    have hlt : b < h1.objs.size := Heap.lt_size (k1 _ _ q)
    exact ⟨Nat.ne_of_lt hlt, Heap.get?_push_of_some _ (k1 _ _ q)⟩
  show wpAny _ _ _ _ _ { s with heap := h1.push (seqObj "list" vs.toArray 0) }
  refine wpAny_bind (wpAny_holding (wpAny_call_entry slot_list_sort ⟨_, hoL, rfl⟩ entry_list_sort (SrtO.list_sort_ord O hoL hz (fun h2 => hS h2 _ _ hoL keep) fun out hs hb => ⟨_, rfl, ?_⟩) (args_list_sort _))); refine wpAny_pure ⟨_, rfl, h _ _ out hs hb (fun b o q => ?_) (by show s.heap.objs.size ≤ h1.objs.size; omega) (sortedHeap_at hoL)⟩
  rw [sortedHeap_old (keep b o q).1 (by rw [Heap.size_push]; exact Nat.lt_succ_of_lt (Heap.lt_size (k1 _ _ q)))]
  exact (keep b o q).2
theorem seq_at {X : Cx} {pins : List (Addr × Obj)} {σ : L2.St} {H : Hp} {s : Shared} {a : Addr} {xs : List V} (I : Inv X pins σ H s) (h : SqL X.K H a xs ∨ SqT X.K H a xs) : ∃ (its : List Value) (T : String) (n : Nat) (o : Obj), Vals xs its ∧ (T = "list" ∨ T = "tuple") ∧ s.heap.get? a = some o ∧ o.cls = .type T ∧ o.data = .seq its.toArray n ∧ xs.length ≤ sizeLine := by
  rcases h with h | h
  · obtain ⟨its, rv, ⟨o, n, e, hc, hn, hd⟩, hz⟩ := I.list h
    exact ⟨its, "list", n, o, rv, .inl rfl, e, hc, hd, hz⟩
  · obtain ⟨its, rv, ⟨o, e, hc, n, hd⟩, hz⟩ := I.tuple h
    exact ⟨its, "tuple", n, o, rv, .inr rfl, e, hc, hd, hz⟩
end
/-- sorted(x), ints -/
def rSortI2 (K : PySem.W.Frag) : List V → Hp → VK → Prop := fun vs H Q => ∃ (a : Addr) (ns : List Int), vs = [V.ref a] ∧ (SqL K H a (ns.map V.int) ∨ SqT K H a (ns.map V.int)) ∧
  ∀ (ns' : List Int) (p : Addr), ns'.Perm ns → ns'.Pairwise (· ≤ ·) → H p = none → Q (.ref p) (upd H p (.lst (ns'.map V.int)))
/-- sorted(x), tuples of ints that are not empty -/
def rSortT2 (K : PySem.W.Frag) : List V → Hp → VK → Prop := fun vs H Q => ∃ (a : Addr) (xs : List V) (k : V → List Int), vs = [V.ref a] ∧ (SqL K H a xs ∨ SqT K H a xs) ∧ (∀ x ∈ xs, ∃ t, x = V.ref t ∧ SqT K H t ((k x).map V.int) ∧ k x ≠ []) ∧
  ∀ ys p, ys.Perm xs → (ys.map k).Pairwise (fun a b => lexL b a = false) → H p = none → Q (.ref p) (upd H p (.lst ys))
section
variable {X : Cx}
theorem cr_sortI2 : CallR X (.builtin "sorted") (rSortI2 X.K) := by
  intro pins s σ H vs us Q I r h
  obtain ⟨a, ns, rfl, hs, q⟩ := h
  obtain ⟨its, T, n, o, rv, hT, ho, hc, hd, hz⟩ := seq_at I hs
  rw [Vals.ref1 r]
  have hi := rv.ints
  refine sorted_seqO SrtO.swo_int hT ho hc hd (by rw [← rv.length]; exact hz) (fun h2 h₁ a' _ _ => SrtO.ints_sortable hi h2) fun h' d out h1 h2 kp hd hn => ?_
  obtain ⟨k1, k2, k3⟩ := SrtO.ints_out hi h1 h2
  obtain ⟨n, hn⟩ := hn
  have hlen : ((out.map SrtO.iv).map V.int).length ≤ sizeLine := by
    rw [List.length_map, k2.length_eq]
    rw [List.length_map] at hz
    exact hz
  exact ⟨.ref d, upd H d (.lst ((out.map SrtO.iv).map V.int)), I.laid (t' := s.toks) kp hd ⟨hlen, out, n, vals_of_ints k1, hn⟩, rfl, q _ _ k2 k3 (I.hok.fresh hd)⟩
theorem cr_sortT2 : CallR X (.builtin "sorted") (rSortT2 X.K) := by
  intro pins s σ H vs us Q I r h
  obtain ⟨a, xs, k, rfl, hs, hx, q⟩ := h
  obtain ⟨its, T, n, o, rv, hT, ho, hc, hd, hz⟩ := seq_at I hs
  rw [Vals.ref1 r]
  obtain ⟨e1, e2⟩ := refs_back rv fun x m => by
    obtain ⟨t, e, _⟩ := hx x m
    exact ⟨t, e⟩
  have hp : ∀ v ∈ its, IsIT s.heap v (k (backV v)) ∧ k (backV v) ≠ [] := by
    intro v hv
    obtain ⟨t, rfl⟩ := e2 v hv
    have hm : V.ref t ∈ xs := by rw [e1]; exact List.mem_map.mpr ⟨_, hv, rfl⟩
    obtain ⟨t', e, ht, hne⟩ := hx _ hm
    cases e
    obtain ⟨its2, r2, ⟨o2, g1, g2, n2, g3⟩, _⟩ := I.tuple ht
    exact ⟨⟨t, o2, its2.toArray, n2, rfl, g1, g2, g3, by show IntsAre its2 (k (V.ref t)); exact r2.ints⟩, hne⟩
  refine sorted_seqO (swo_lexL fun u => k (backV u)) hT ho hc hd (by rw [← rv.length]; exact hz) (fun h2 h₁ a' ha kk => ?_) fun h' d out h1 h2 kp hd hn => ?_
  · refine tups_sortable (s := { s with heap := h₁ }) (by omega) (fun v hm => ⟨(hp v hm).1.keeps fun b o e _ => (kk b o e).2, (hp v hm).2⟩) fun o e => ?_
    have e' : some o = some (seqObj "list" its.toArray 0) := e.symm.trans ha
    cases e'
    intro c
    exact absurd (Value.type.inj c) (by decide)
  · have h3 : ∀ u ∈ out, ∃ a, u = Value.ref a := fun u hu => e2 u (h2.perm.mem_iff.mp hu)
    obtain ⟨n, hn⟩ := hn
    have hb : (out.map backV).Perm xs := by
      rw [e1]
      exact h2.perm.map backV
    refine ⟨.ref d, upd H d (.lst (out.map backV)), I.laid (t' := s.toks) kp hd ⟨?_, out, n, vals_back h3, hn⟩, rfl, q _ d hb ?_ (I.hok.fresh hd)⟩
    · rw [hb.length_eq]
      exact hz
    · rw [List.map_map]
      exact List.pairwise_map.mpr (h1.imp fun {x y} h => h)
end
end Ev
end
section
set_option maxRecDepth 100000
set_option maxHeartbeats 4000000
/-! Ev: enumerate and sum of a tuple. -/
namespace Ev
open PySem PySem.Spec PyProof.Rows L2
/-- enumerate(v) -/
theorem meets_enum1 {v : Value} {ob : Obj} {P : Heap → Prop} (B : Begins v ob P) :
    Meets (Builtin.«enumerate.__new__» ⟨[.type "enumerate", v], []⟩) (fun _ R s => P s.heap ∧
      R (.ok (.ret (.ref (s.heap.push ob).objs.size))) { s with heap := (s.heap.push ob).push { cls := .type "enumerate", data := .fields #[.none, .bool false, .ref s.heap.objs.size, rawInt 0, .none, .none] } }) :=
  .of_wp fun prog w A R s h => by
    obtain ⟨hp, g, d, tk, os⟩ := s
    obtain ⟨hP, hR⟩ := h
    have hsub := sub_enumerate
    have nx : ∀ {A2 : Around} {E2 : Value → Shared → Prop} {Q2 : Value → Shared → Prop}, Q2 (.ref hp.objs.size) ⟨hp.push ob, g, d, tk, os⟩ → wpAny (model prog w) A2 (pyIter v) Q2 E2 ⟨hp, g, d, tk, os⟩ := fun q => B.iter prog w _ _ ⟨hp, g, d, tk, os⟩ _ hP q
    wp_walk using nx
    refine wpAny_stack_any fun st => wpAny_pure ?_
    split
    · rename_i c _ _ _ _ _
      cases (c == Value.type "enumerate") <;> (wp_walk using nx; exact ⟨_, rfl, hR⟩)
    · wp_walk using nx
      exact ⟨_, rfl, hR⟩
section
variable {prog : Program} {w : World} {A : Around} {E : Value → Shared → Prop} {s : Shared}
theorem call_enum1 {v : Value} {ob : Obj} {P : Heap → Prop} {Q : Value → Shared → Prop} (B : Begins v ob P) (hP : P s.heap)
    (hq : ∀ h', IsEnum h' (s.heap.objs.size + 1) s.heap.objs.size 0 .none → h'.get? s.heap.objs.size = some ob → h'.objs.size = s.heap.objs.size + 2 → (∀ b o, s.heap.get? b = some o → h'.get? b = some o) → Q (.ref (s.heap.objs.size + 1)) { s with heap := h' }) :
    wpAny (model prog w) A (call (.type "enumerate") [v]) Q E s := by
  refine callType_new F.called_enumerate (by decide) (F.typeCall_enumerate_1 _) (F.newCall_enumerate_1 _) (fun obj => F.args_object_init_2 obj _) F.entry_enumerate_new (meets_enum1 B) ⟨hP, ?_⟩
  have sz : (s.heap.push ob).objs.size = s.heap.objs.size + 1 := Heap.size_push ..
  show _ ∧ _
  rw [sz]
  have at1 := Heap.get?_push_size (s.heap.push ob) (o := { cls := .type "enumerate", data := .fields #[.none, .bool false, .ref s.heap.objs.size, rawInt 0, .none, .none] }) rfl
  rw [sz] at at1
  exact ⟨⟨_, at1, rfl⟩, hq _ at1 (Heap.get?_push_of_some _ (Heap.get?_push_size _ B.free)) (by rw [Heap.size_push, sz]) fun b o x => Heap.get?_push_of_some _ (Heap.get?_push_of_some _ x)⟩
end
/-- the tuple at a, each item in a new pair -/
def Itet (K : PySem.W.Frag) (a : Addr) : It :=
  ⟨fun i H => ∃ (xs : List V) (x : V), SqT K H a xs ∧ xs[i]? = some x, fun i H v H' => ∃ T x, v = .ref T ∧ H T = none ∧ H' = upd H T (.tup [.int (i : Nat), x]) ∧ ∀ xs, SqT K H a xs → xs[i]? = some x, fun i H => ∃ xs : List V, SqT K H a xs ∧ xs.length ≤ i⟩
theorem turn_enumT {P : Program} {w : World} {K : PySem.W.Frag} {elts : List Expr} {kk : Nat} {tpos : Pos} (a e it : Addr) :
    Turn P w K (.Tuple elts kk tpos) (Itet K a) [e, it] e (fun i h => (∃ old, IsEnum h e it ((i : Nat) : Int) old) ∧ h.IsTupleIter it a i ∧ e ≠ it ∧ a ≠ it ∧ e ≠ a) where
  mem := by simp
  obj := fun i h ⟨⟨old, he⟩, ⟨o, ho, hc, hd⟩, _⟩ b hb => by
    rcases (by simpa using hb : b = e ∨ b = it) with rfl | rfl
    · exact ⟨_, he, fun v q => nomatch q⟩
    · exact ⟨o, ho, fun v q => by rw [hd] at q; cases q⟩
  keep := fun i h h' ⟨⟨old, he⟩, hi, hne⟩ k => ⟨⟨old, k e (by simp) _ he⟩, hi.at fun o q => k it (by simp) o q, hne⟩
  item := by
    intro X hP hw hK hc i pins s σ H E I hf ⟨⟨old, he⟩, hit, n1, n2, n3⟩ ⟨xs, x, hq, hx⟩
    subst hP hw hK
    obtain ⟨its, rv, p, hz⟩ := I.tuple hq
    obtain ⟨u, hu, ru⟩ := rv.get hx
    have hl := rv.length
    have hlt : i < its.toArray.size := by
      have := (List.getElem?_eq_some_iff.mp hu).1
      simpa using this
    have hel : e < s.heap.objs.size := Heap.lt_size he
    have hil : it < s.heap.objs.size := by obtain ⟨_, q, _⟩ := hit; exact Heap.lt_size q
    have D := Draws.tuple (prog := X.prog) (w := X.w) (A := X.A.in1) (I.ok.hd hc) it a n2 its.toArray
    refine wpAny_pyNext_enum_itemD D he ⟨hit, p⟩ hlt n1 (by simp [n1, n3]) fun v h' tk hv ho hst hT hsz hk => ?_
    have ev : v = u := by
      have : its.toArray[i]? = some v := hv
      rw [List.getElem?_toArray, hu] at this
      exact (Option.some.inj this).symm
    subst ev
    refine ⟨_, rfl, wpAny_letOwnedTupleGo_enum (s := { s with heap := h', toks := tk + 1 }) ho fun h'' he' sb => ?_⟩
    have hT2 := (sb.2 _ (Nat.ne_of_gt hel)).trans hT
    have new : ObjOk X.prog X.w (upd H s.heap.objs.size (.tup [.int (i : Nat), x])) h'' s.heap.objs.size (.tup [.int (i : Nat), x]) :=
      ⟨by show 2 ≤ sizeLine; decide, [.int i tk, v], .cons ⟨_, rfl⟩ (.cons ru .nil), ⟨_, hT2, rfl, _, rfl⟩⟩
    have I1 : Inv X pins σ (upd H s.heap.objs.size (.tup [.int (i : Nat), x])) { s with heap := h'', toks := tk + 1 } :=
      I.turnedNew (ch := [e, it]) (fun b ob hb q => (sb.2 b (fun z => hb (by simp [z]))).trans (hk b ob (fun z => hb (by simp [z])) (fun z => hb (by simp [z])) q)) hf (Nat.le_refl _) new
    refine ⟨.ref s.heap.objs.size, _, I1, rfl, ⟨_, x, rfl, I.hok.fresh (Nat.le_refl _), rfl, fun ys hy => by rw [I.tuple_inj hy hq]; exact hx⟩, ⟨⟨v, ?_⟩, hst.1.at fun o q => (sb.2 it (Ne.symm n1)).trans q, n1, n2, n3⟩, fun b hb => ?_⟩
    · rw [show ((i + 1 : Nat) : Int) = (i : Int) + 1 by omega]
      exact he'
    · rw [upd_ne (Nat.ne_of_lt (by
        rcases (by simpa using hb : b = e ∨ b = it) with rfl | rfl
        · exact hel
        · exact hil))]
      exact (hf b hb).1
  done := by
    intro X hP hw hK hc i pins s σ H E I hf ⟨⟨old, he⟩, hit, n1, n2, n3⟩ ⟨xs, hq, hx⟩
    subst hP hw hK
    obtain ⟨its, rv, p, hz⟩ := I.tuple hq
    obtain ⟨f0, f1, f2, f3, f4, f5⟩ := hf it (by simp)
    have hl := rv.length
    have no : its.toArray[i]? = none := by
      rw [List.getElem?_toArray]
      exact List.getElem?_eq_none (by omega)
    have ty : s.TypeIs (.ref e) "enumerate" := ⟨_, he, rfl⟩
    unfold pyNext
    refine wpAny_bind (wpAny_attempt (wpAny_callSpecial?_slot (name := Str.ofString "__next__") ty F.slot_enumerate_next (wpAny_call_entry F.slot_enumerate_next ty F.entry_enumerate_next ?_ (F.args_enumerate_next_1 _))))
    show wpAny _ _ (field (.ref e) 2 >>= _) _ _ _
    refine wpAny_bind (wpAny_field he rfl (x := .ref it) rfl (wpAny_bind (wpAny_nextOf_tuple_end (show X.A.in1.in1.handled = none from I.ok.hd hc) hit p no fun h' x eb ⟨o, ho, hcl⟩ => ?_)))
    refine wpAny_bind (wpAny_isInstance (T := "StopIteration") (b := true) ⟨o, ho, hcl⟩ isSubtype_stop (wpAny_pure ?_))
    exact ⟨rfl, I.turned (t' := s.toks) (fun b o hb q => eb b o hb q) f0 f1 f3 f4 f5⟩
  self := fun A i s Q E ⟨⟨_, he⟩, _⟩ h => wpAny_pyIter_enum he h
def iEnumA (K : PySem.W.Frag) (ta : TA) : TI := fun σ H R => ta σ H fun vs H1 => ∃ a, vs = [.ref a] ∧ ((∃ xs, SqL K H1 a xs ∧ R (Ite K a) H1) ∨ ∃ xs, SqT K H1 a xs ∧ R (Itet K a) H1)
theorem pi_enumA {X : Cx} {e : Expr} {ta : TA} {p pos tpos : Pos} {elts : List Expr} {kk : Nat} (hg : Gl X "enumerate") (hm : X.mg "enumerate" = none) (ha : PA X [e] ta) (hs : starEach [e] X.env = [(false, eval e X.env)]) :
    PI X (.Tuple elts kk tpos) (.Call (.Name "enumerate" p) [e] [] pos) (iEnumA X.K ta) := by
  refine ⟨fun pins s σ H R I h => Call_ (ld_blt I hg hm boot_enumerate (PyProof.Rows.callWith_type1 (thn (ha.run pos pins s σ H _ I h) fun us s1 ⟨vs, H1, I1, r1, q1⟩ => ?_) hs rfl))⟩
  obtain ⟨a, ex, q1⟩ := q1
  subst ex
  rw [Vals.ref1 r1]
  have fp : ∀ b ∈ [s1.heap.objs.size + 1, s1.heap.objs.size], FpOk X pins H1 b := fun b hb => by
    have hle : s1.heap.objs.size ≤ b := by
      rcases (by simpa using hb : b = s1.heap.objs.size + 1 ∨ b = s1.heap.objs.size) with z | z <;> omega
    exact I1.fpOk hle (I1.hok.fresh hle)
  rcases q1 with ⟨xs, hq, q⟩ | ⟨xs, hq, q⟩
  · obtain ⟨its, rv, p', hz⟩ := I1.list hq
    refine call_enumerate_list p'.isList fun h' he hit hsz hk => wpAny_pyIter_enum he ?_
    exact ⟨s1.heap.objs.size + 1, _, _, _, H1, rfl, I1.kept (t' := s1.toks) hk, turn_enum a (s1.heap.objs.size + 1) s1.heap.objs.size, ⟨⟨.none, he⟩, hit, Nat.succ_ne_self _⟩, fp, q⟩
  · obtain ⟨its, rv, p', hz⟩ := I1.tuple hq
    have la : a < s1.heap.objs.size := by
      obtain ⟨o, ho, _⟩ := p'
      exact Heap.lt_size ho
    refine call_enum1 (begins_tuple a its.toArray) p' fun h' he hit hsz hk => wpAny_pyIter_enum he ?_
    exact ⟨s1.heap.objs.size + 1, _, _, _, H1, rfl, I1.kept (t' := s1.toks) hk, turn_enumT a (s1.heap.objs.size + 1) s1.heap.objs.size, ⟨⟨.none, he⟩, ⟨_, hit, rfl, rfl⟩, Nat.succ_ne_self _, Nat.ne_of_lt la, Nat.ne_of_gt (Nat.lt_succ_of_lt la)⟩, fp, q⟩
/-- sum(x), ints, a list or a tuple -/
def rSum2 (K : PySem.W.Frag) : List V → Hp → VK → Prop := fun vs H Q => ∃ (a : Addr) (ns : List Int), vs = [V.ref a] ∧ (SqL K H a (ns.map V.int) ∨ SqT K H a (ns.map V.int)) ∧ Q (.int ns.sum) H
theorem cr_sum2 {X : Cx} (hc : X.calm = true) : CallR X (.builtin "sum") (rSum2 X.K) := by
  intro pins s σ H vs us Q I r h
  obtain ⟨a, ns, rfl, hs | hs, q⟩ := h
  · exact cr_sum hc pins s σ H _ us Q I r ⟨a, ns, rfl, hs, q⟩
  · obtain ⟨its, rv, hl, _⟩ := I.tuple hs
    rw [Vals.ref1 r]
    obtain ⟨xs, e⟩ := rv.ints.allInts.items
    have hn : numsOf (intItems xs).toList = ns := by rw [← e]; exact rv.ints.numsOf
    rw [nums_intItems] at hn
    rw [e] at hl
    refine PySem.W.ktm_sumG (I.ok.hd hc) hl fun h' tk t' hk => ⟨.int ns.sum, H, I.kept hk, ⟨t', ?_⟩, q⟩
    rw [preSum_eq, List.take_of_length_le (by simp), hn]
end Ev
end
section
set_option maxRecDepth 100000
set_option maxHeartbeats 4000000
/-! Ev, part 5: comparisons, truth, places, built-in functions. -/
namespace Ev
open PySem PySem.Spec PyProof.Rows L2
/-! #### == -/
mutual
def toPy : D → PyData
  | .non => .none
  | .bl b => .bool b
  | .int i => .int i
  | .str s => .str ⟨s.toArray⟩
  | .tup l => .tuple (toPyL l)
  | .lst l => .list (toPyL l)
  | .ref _ => .none
  | .obj _ _ => .none
def toPyL : List D → List PyData
  | [] => []
  | d :: l => toPy d :: toPyL l
end
mutual
theorem pln_shape : ∀ (n : Nat) (d : D), pln n d = true → (toPy d).canLay0 = true ∧ (toPy d).depth ≤ n
  | _, .non, _ => by simp [toPy, PyData.canLay0, PyData.depth]
  | _, .bl _, _ => by simp [toPy, PyData.canLay0, PyData.depth]
  | _, .int _, _ => by simp [toPy, PyData.canLay0, PyData.depth]
  | _, .str s, h => by
    simp only [pln] at h
    simp [toPy, PyData.canLay0, PyData.depth, PyData.strOk]
    simpa using h
  | 0, .tup _, h => by simp [pln] at h
  | 0, .lst _, h => by simp [pln] at h
  | n + 1, .tup l, h => by
    simp only [pln] at h
    obtain ⟨h1, h2⟩ := plnL_shape n l h
    simp only [toPy, PyData.canLay0, PyData.depth]
    exact ⟨h1, by omega⟩
  | n + 1, .lst l, h => by
    simp only [pln] at h
    obtain ⟨h1, h2⟩ := plnL_shape n l h
    simp only [toPy, PyData.canLay0, PyData.depth]
    exact ⟨h1, by omega⟩
  | _, .ref _, h => by simp [pln] at h
  | _, .obj _ _, h => by simp [pln] at h
theorem plnL_shape : ∀ (n : Nat) (l : List D), plnL n l = true → PyData.canLayAll0 (toPyL l) = true ∧ PyData.depthAll (toPyL l) ≤ n
  | _, [], _ => by simp [toPyL, PyData.canLayAll0, PyData.depthAll]
  | n, d :: l, h => by
    simp only [plnL, Bool.and_eq_true] at h
    obtain ⟨h1, h2⟩ := pln_shape n d h.1
    obtain ⟨h3, h4⟩ := plnL_shape n l h.2
    simp only [toPyL, PyData.canLayAll0, PyData.depthAll, h1, h3]
    exact ⟨rfl, by omega⟩
end
theorem shaped_of {n : Nat} {d : D} (h : pln n d = true) (hn : n ≤ 60) : SeqAt.shaped (toPy d) = true := by
  obtain ⟨h1, h2⟩ := pln_shape n d h
  unfold SeqAt.shaped
  rw [h1, decide_eq_true (show (toPy d).depth ≤ 64 by omega)]
  rfl
theorem str_beq (a b : List Nat) : ((⟨a.toArray⟩ : Str) == ⟨b.toArray⟩) = (a == b) := by
  rw [Bool.eq_iff_iff, beq_iff_eq, beq_iff_eq]
  constructor
  · intro h
    injection h with h
    simpa using h
  · rintro rfl; rfl
mutual
theorem eqv_of : ∀ (n k : Nat) (d e : D), pln n d = true → pln k e = true → PyData.eqv (toPy d) (toPy e) = eqD d e
  | n, k, d, e, h1, h2 => by
    cases d with
    | ref i => cases n <;> simp [pln] at h1
    | obj c l => cases n <;> simp [pln] at h1
    | tup l =>
      cases n with
      | zero => simp [pln] at h1
      | succ n =>
        cases e with
        | ref i => cases k <;> simp [pln] at h2
        | obj c l => cases k <;> simp [pln] at h2
        | tup l2 =>
          cases k with
          | zero => simp [pln] at h2
          | succ k =>
            simp only [pln] at h1 h2
            simp only [toPy, PyData.eqv, eqD]
            exact eqvL_of n k l l2 h1 h2
        | _ => simp [toPy, PyData.eqv, eqD]
    | lst l =>
      cases n with
      | zero => simp [pln] at h1
      | succ n =>
        cases e with
        | ref i => cases k <;> simp [pln] at h2
        | obj c l => cases k <;> simp [pln] at h2
        | lst l2 =>
          cases k with
          | zero => simp [pln] at h2
          | succ k =>
            simp only [pln] at h1 h2
            simp only [toPy, PyData.eqv, eqD]
            exact eqvL_of n k l l2 h1 h2
        | _ => simp [toPy, PyData.eqv, eqD]
    | str s =>
      cases e with
      | ref i => cases k <;> simp [pln] at h2
      | obj c l => cases k <;> simp [pln] at h2
      | str t => simp only [toPy, PyData.eqv, eqD, str_beq]
      | _ => simp [toPy, PyData.eqv, eqD]
    | non =>
      cases e with
      | ref i => cases k <;> simp [pln] at h2
      | obj c l => cases k <;> simp [pln] at h2
      | _ => simp [toPy, PyData.eqv, eqD]
    | bl b =>
      cases e with
      | ref i => cases k <;> simp [pln] at h2
      | obj c l => cases k <;> simp [pln] at h2
      | _ => simp [toPy, PyData.eqv, eqD]
    | int i =>
      cases e with
      | ref i => cases k <;> simp [pln] at h2
      | obj c l => cases k <;> simp [pln] at h2
      | _ => simp [toPy, PyData.eqv, eqD]
theorem eqvL_of : ∀ (n k : Nat) (l r : List D), plnL n l = true → plnL k r = true → PyData.eqvAll (toPyL l) (toPyL r) = eqL l r
  | n, k, [], [], _, _ => by simp [toPyL, PyData.eqvAll, eqL]
  | n, k, [], _ :: _, _, _ => by simp [toPyL, PyData.eqvAll, eqL]
  | n, k, _ :: _, [], _, _ => by simp [toPyL, PyData.eqvAll, eqL]
  | n, k, d :: l, e :: r, h1, h2 => by
    simp only [plnL, Bool.and_eq_true] at h1 h2
    simp only [toPyL, PyData.eqvAll, eqL, eqv_of n k d e h1.1 h2.1, eqvL_of n k l r h1.2 h2.2]
end
section
variable {G : Pg} {X : Cx} {m : List Addr} {H : Hp} {S : Store}
mutual
theorem dp_of : ∀ (n : Nat) (d : D) (v : V), pln n d = true → Rep G m H d v → Dp G.K H v (toPy d)
  | n, d, v, h, r => by
    cases d with
    | non => rw [r.non_inv]; simp only [toPy]; exact .non
    | bl b => rw [r.bl_inv]; simp only [toPy]; exact .bl b
    | int i => rw [r.int_inv]; simp only [toPy]; exact .int i
    | str s => rw [r.str_inv]; simp only [toPy]; exact .str _
    | tup l =>
      obtain ⟨p, vs, rfl, f, rl⟩ := r.tup_inv
      simp only [toPy]
      cases n with
      | zero => simp [pln] at h
      | succ n => simp only [pln] at h; exact .tup f.sq (dpL_of n l vs h rl)
    | lst l =>
      obtain ⟨p, vs, rfl, f, rl⟩ := r.lst_inv
      simp only [toPy]
      cases n with
      | zero => simp [pln] at h
      | succ n => simp only [pln] at h; exact .lst (sq_of f.2) (dpL_of n l vs h rl)
    | ref i => cases n <;> simp [pln] at h
    | obj c l => cases n <;> simp [pln] at h
theorem dpL_of : ∀ (n : Nat) (l : List D) (vs : List V), plnL n l = true → RepL G m H l vs → DpAll G.K H vs (toPyL l)
  | n, [], vs, _, r => by
    simp only [RepL] at r; subst r
    simp only [toPyL]; exact .nil
  | n, d :: l, vs, h, r => by
    simp only [RepL] at r
    obtain ⟨v, us, rfl, r1, r2⟩ := r
    simp only [plnL, Bool.and_eq_true] at h
    simp only [toPyL]
    exact .cons (dp_of n d v h.1 r1) (dpL_of n l us h.2 r2)
end
theorem dp_vw {d : D} {v : V} {n : Nat} (rs : RS G m H S) (r : Rep G m H d v) (h : pln n (vw d S) = true) : Dp G.K H v (toPy (vw d S)) := by
  unfold vw at h ⊢
  split at h
  · rename_i k
    split at h
    · rename_i l e
      obtain ⟨p, rfl, hp⟩ := r.ref_inv
      obtain ⟨p', hp', vs, hv, rl⟩ := rs.cel _ _ e
      rw [hp] at hp'; cases hp'
      simp only [toPy]
      cases n with
      | zero => simp [pln] at h
      | succ n => simp only [pln] at h; exact .lst (.inl (.inl hv)) (dpL_of n l vs h rl)
    · cases n <;> simp [pln] at h
  · exact dp_of n d v h r
end
/-! #### comparisons -/
def rCmp (G : Pg) (op : Cp) : R2 := fun x y H Q => ∃ m S d e k, RS G m H S ∧ Rep G m H d x ∧ Rep G m H e y ∧ cmpD op d e S = some k ∧ Q (.bl k) H
section
variable {G : Pg} {X : Cx} {m : List Addr} {H : Hp} {S : Store}
theorem flat_of {d : D} {v : V} (r : Rep G m H d v) (h : flD d = true) : flatV v = true := by
  cases d with
  | non => rw [r.non_inv]; rfl
  | bl b => rw [r.bl_inv]; rfl
  | int i => rw [r.int_inv]; rfl
  | str s => rw [r.str_inv]; rfl
  | _ => simp [flD] at h
theorem eqV_of {d e : D} {v u : V} (r : Rep G m H d v) (q : Rep G m H e u) (h : flD d = true) (k : flD e = true) : eqV v u = eqD d e := by
  cases d with
  | non =>
    rw [r.non_inv]
    cases e with
    | non => rw [q.non_inv]; simp [eqV, eqD]
    | bl b => rw [q.bl_inv]; simp [eqV, eqD]
    | int i => rw [q.int_inv]; simp [eqV, eqD]
    | str s => rw [q.str_inv]; simp [eqV, eqD]
    | _ => simp [flD] at k
  | bl b =>
    rw [r.bl_inv]
    cases e with
    | non => rw [q.non_inv]; simp [eqV, eqD]
    | bl b => rw [q.bl_inv]; simp [eqV, eqD]
    | int i => rw [q.int_inv]; simp [eqV, eqD]
    | str s => rw [q.str_inv]; simp [eqV, eqD]
    | _ => simp [flD] at k
  | int i =>
    rw [r.int_inv]
    cases e with
    | non => rw [q.non_inv]; simp [eqV, eqD]
    | bl b => rw [q.bl_inv]; simp [eqV, eqD]
    | int i => rw [q.int_inv]; simp [eqV, eqD]
    | str s => rw [q.str_inv]; simp [eqV, eqD]
    | _ => simp [flD] at k
  | str s =>
    rw [r.str_inv]
    cases e with
    | non => rw [q.non_inv]; simp [eqV, eqD]
    | bl b => rw [q.bl_inv]; simp [eqV, eqD]
    | int i => rw [q.int_inv]; simp [eqV, eqD]
    | str s => rw [q.str_inv]; simp only [eqV, eqD, str_beq]
    | _ => simp [flD] at k
  | _ => simp [flD] at h
theorem flats_of : ∀ {l : List D} {vs : List V}, RepL G m H l vs → l.all flD = true → vs.all flatV = true
  | [], _, r, _ => by simp only [RepL] at r; subst r; rfl
  | d :: l, _, r, h => by
    simp only [RepL] at r
    obtain ⟨v, us, rfl, r1, r2⟩ := r
    simp only [List.all_cons, Bool.and_eq_true] at h ⊢
    exact ⟨flat_of r1 h.1, flats_of r2 h.2⟩
theorem anyV_of {d : D} {x : V} (q : Rep G m H d x) (hd : flD d = true) : ∀ {l : List D} {vs : List V}, RepL G m H l vs → l.all flD = true → (vs.any fun y => eqV y x) = l.any fun y => eqD y d
  | [], _, r, _ => by simp only [RepL] at r; subst r; rfl
  | e :: l, _, r, h => by
    simp only [RepL] at r
    obtain ⟨v, us, rfl, r1, r2⟩ := r
    simp only [List.all_cons, Bool.and_eq_true] at h
    simp only [List.any_cons, eqV_of r1 q h.1 hd, anyV_of q hd r2 h.2]
theorem anyP_of {d : D} (hd : pln 60 d = true) : ∀ {l : List D}, plnL 60 l = true → ((toPyL l).any fun z => PyData.eqv z (toPy d)) = l.any fun y => eqD y d
  | [], _ => rfl
  | e :: l, h => by
    simp only [plnL, Bool.and_eq_true] at h
    simp only [toPyL, List.any_cons, eqv_of 60 60 e d h.1 hd, anyP_of hd h.2]
theorem in_cases {d e : D} {x y : V} {k : Bool} (rs : RS G m H S) (rd : Rep G m H d x) (re : Rep G m H e y) (h : inD d e S = some k) :
    (∃ p xs, y = .ref p ∧ SqT G.K H p xs ∧ flatV x = true ∧ xs.all flatV = true ∧ inV x xs = k) ∨
      ∃ d' ds, Dp G.K H x d' ∧ Dp G.K H y (.list ds) ∧ SeqAt.shaped d' = true ∧ SeqAt.shaped (.list ds) = true ∧ (ds.any fun z => PyData.eqv z d') = k := by
  unfold inD at h
  split at h
  · rename_i l
    split at h
    · rename_i hf
      cases h
      simp only [Bool.and_eq_true] at hf
      obtain ⟨p, vs, rfl, f, r⟩ := re.tup_inv
      refine .inl ⟨p, vs, rfl, f.sq, flat_of rd hf.1, flats_of r hf.2, ?_⟩
      exact anyV_of rd hf.1 r hf.2
    · cases h
  · split at h
    · rename_i l e1
      split at h
      · rename_i hf
        cases h
        simp only [Bool.and_eq_true] at hf
        obtain ⟨p, vs, rfl, hp, r⟩ := lstOf_sq rs re e1
        have hl := plnL_shape 60 l hf.2
        refine .inr ⟨toPy (vw d S), toPyL l, dp_vw rs rd hf.1, .lst (sq_of hp) (dpL_of 60 l vs hf.2 r), shaped_of hf.1 (Nat.le_refl _), ?_, anyP_of hf.1 hf.2⟩
        unfold SeqAt.shaped
        simp only [PyData.canLay0, PyData.depth, hl.1, Bool.true_and]
        exact decide_eq_true (by have := hl.2; omega)
      · cases h
    · cases h
theorem cmpI_int {op : Cp} {d e : D} {x y : V} {k : Bool} (rd : Rep G m H d x) (re : Rep G m H e y) (h : intCmp op d e = some k) : ∃ i j, x = .int i ∧ y = .int j ∧ k = cmpI op i j := by
  unfold intCmp at h
  split at h
  · rename_i i j
    cases h
    exact ⟨i, j, rd.int_inv, re.int_inv, rfl⟩
  · cases h
theorem op_cmp (hK : X.K = G.K) (hu : X.A.units + 65 < cLine) (op : Cp) : OpR X (compareOp op.of) (rCmp G op) := by
  intro pins s σ H x y v u Q I rx ry ⟨m, S, d, e, k, rs, rd, re, h, q⟩
  cases op with
  | eq =>
    simp only [cmpD] at h
    split at h
    · rename_i hf
      cases h
      simp only [Bool.and_eq_true] at hf
      refine op_eqD (by omega) pins s σ H x y v u Q I rx ry ⟨toPy (vw d S), toPy (vw e S), ?_, ?_, shaped_of hf.1 (Nat.le_refl _), shaped_of hf.2 (Nat.le_refl _), ?_⟩
      · rw [hK]; exact dp_vw rs rd hf.1
      · rw [hK]; exact dp_vw rs re hf.2
      · rw [eqv_of 60 60 _ _ hf.1 hf.2]; exact q
    · cases h
  | ne =>
    simp only [cmpD] at h
    split at h
    · rename_i hf
      cases h
      simp only [Bool.and_eq_true] at hf
      refine op_neD (by omega) pins s σ H x y v u Q I rx ry ⟨toPy (vw d S), toPy (vw e S), ?_, ?_, shaped_of hf.1 (Nat.le_refl _), shaped_of hf.2 (Nat.le_refl _), ?_⟩
      · rw [hK]; exact dp_vw rs rd hf.1
      · rw [hK]; exact dp_vw rs re hf.2
      · rw [eqv_of 60 60 _ _ hf.1 hf.2]; exact q
    · cases h
  | isIn =>
    simp only [cmpD] at h
    rcases in_cases rs rd re h with ⟨p, xs, ey, hs, f1, f2, e1⟩ | ⟨d', ds, h1, h2, h3, h4, e1⟩
    · exact op_in_seq pins s σ H x y v u Q I rx ry ⟨p, xs, ey, .inr (by rw [hK]; exact hs), f1, f2, by rw [if_neg Bool.false_ne_true, e1]; exact q⟩
    · exact op_inD hu pins s σ H x y v u Q I rx ry ⟨d', ds, by rw [hK]; exact h1, by rw [hK]; exact h2, h3, h4, by rw [e1]; exact q⟩
  | notIn =>
    simp only [cmpD] at h
    split at h
    · rename_i b hb
      cases h
      rcases in_cases rs rd re hb with ⟨p, xs, ey, hs, f1, f2, e1⟩ | ⟨d', ds, h1, h2, h3, h4, e1⟩
      · exact op_notIn_seq pins s σ H x y v u Q I rx ry ⟨p, xs, ey, .inr (by rw [hK]; exact hs), f1, f2, by rw [if_pos rfl, e1]; exact q⟩
      · exact op_notInD hu pins s σ H x y v u Q I rx ry ⟨d', ds, by rw [hK]; exact h1, by rw [hK]; exact h2, h3, h4, by rw [e1]; exact q⟩
    · cases h
  | lt =>
    simp only [cmpD] at h
    obtain ⟨i, j, ex, ey, ek⟩ := cmpI_int rd re h
    subst ek
    exact op_lt pins s σ H x y v u Q I rx ry ⟨i, j, ex, ey, q⟩
  | le =>
    simp only [cmpD] at h
    obtain ⟨i, j, ex, ey, ek⟩ := cmpI_int rd re h
    subst ek
    exact op_le pins s σ H x y v u Q I rx ry ⟨i, j, ex, ey, q⟩
  | gt =>
    simp only [cmpD] at h
    obtain ⟨i, j, ex, ey, ek⟩ := cmpI_int rd re h
    subst ek
    exact op_gt pins s σ H x y v u Q I rx ry ⟨i, j, ex, ey, q⟩
  | ge =>
    simp only [cmpD] at h
    obtain ⟨i, j, ex, ey, ek⟩ := cmpI_int rd re h
    subst ek
    exact op_ge pins s σ H x y v u Q I rx ry ⟨i, j, ex, ey, q⟩
/-! #### truth -/
theorem tru_of {d : D} {v : V} {k : Bool} (rs : RS G m H S) (r : Rep G m H d v) (h : truD d S = some k) : TruV G.K v H k := by
  have nb : ∀ {l : List D} {vs : List V}, RepL G m H l vs → (!l.isEmpty) = !vs.isEmpty := fun {l vs} q => by
    have e := q.length
    cases l <;> cases vs <;> simp_all
  cases d with
  | non => cases h; rw [r.non_inv]; rfl
  | bl b => cases h; rw [r.bl_inv]; rfl
  | int i => cases h; rw [r.int_inv]; rfl
  | str s =>
    simp only [truD] at h
    split at h
    · rename_i hz
      cases h
      rw [r.str_inv]
      refine ⟨by rw [str_len, ← lim]; exact hz, ?_⟩
      rw [str_len]
      cases s with
      | nil => rfl
      | cons a b =>
        show true = (((a :: b).length : Int) != 0)
        have : ((a :: b).length : Int) ≠ 0 := by simp only [List.length_cons]; omega
        exact (bne_iff_ne.mpr this).symm
    · cases h
  | tup l =>
    cases h
    obtain ⟨p, vs, rfl, f, q⟩ := r.tup_inv
    exact .inr (.inl ⟨vs, f.sq, nb q⟩)
  | lst l =>
    cases h
    obtain ⟨p, vs, rfl, f, q⟩ := r.lst_inv
    exact .inl ⟨vs, sq_of f.2, nb q⟩
  | ref n =>
    simp only [truD] at h
    split at h
    · rename_i l e
      cases h
      obtain ⟨p, rfl, hp⟩ := r.ref_inv
      obtain ⟨p', hp', vs, hv, q⟩ := rs.cel _ _ e
      rw [hp] at hp'; cases hp'
      exact .inl ⟨vs, .inl (.inl hv), nb q⟩
    · cases h
  | obj c l => cases h
theorem op_tru (hK : X.K = G.K) : TruR X (fun x H Q => ∃ m S d k, RS G m H S ∧ Rep G m H d x ∧ truD d S = some k ∧ Q k H) := by
  intro pins s σ H x v Q I rx ⟨m, S, d, k, rs, r, e, q⟩
  exact tru_ok pins s σ H x v Q I rx ⟨k, by rw [hK]; exact tru_of rs r e, q⟩
/-! #### a place, a slice -/
theorem ixN_eq (n : Nat) (i : Int) : ixN n i = L2.ixN n i := rfl
theorem op_idx (hK : X.K = G.K) : IxR X (fun x y H Q => ∃ m S d e, RS G m H S ∧ Rep G m H d x ∧ Rep G m H e y ∧ FinV G (Rep G) m H (ofO (idxD d e S) S) Q) := by
  intro value slice pins s σ H x y v u Q I rx ry ⟨m, S, d, e, rs, rd, re, h⟩ hs
  cases ei : idxD d e S with
  | none => rw [ei] at h; exact h.elim
  | some z =>
    rw [ei] at h
    unfold idxD at ei
    split at ei
    · rename_i i
      have ey := re.int_inv
      split at ei
      · rename_i t
        split at ei
        · rename_i hz
          split at ei
          · rename_i k hk
            split at ei
            · rename_i c hc
              cases ei
              refine (ix_str value slice pins s σ H x y v u Q I rx ry ⟨_, i, c, rd.str_inv, ey, ?_, ?_, ?_⟩ hs)
              · rw [str_len, ← lim]; exact hz
              · unfold atI
                rw [show ((⟨t.toArray⟩ : Str).cps.toList) = t from by simp, ← ixN_eq, hk]
                exact hc
              · exact fin_same rs rep_str h
            · cases ei
          · cases ei
        · cases ei
      · split at ei
        · rename_i l e1
          split at ei
          · rename_i k hk
            obtain ⟨p, vs, ex, hp, r⟩ := seqOf_sq rs rd e1
            obtain ⟨w, hw, rw'⟩ := r.get ei
            have ha : atI vs i = some w := by
              unfold atI
              rw [← ixN_eq, ← r.length, hk]
              exact hw
            have hq : Q w H := fin_same rs rw' h
            rcases hp with hp | hp
            · exact ix_list value slice pins s σ H x y v u Q I rx ry ⟨p, vs, i, w, ex, ey, sq_of hp, ha, hq⟩ hs
            · exact ix_tup value slice pins s σ H x y v u Q I rx ry ⟨p, vs, i, w, ex, ey, by rw [hK]; exact hp, ha, hq⟩ hs
          · cases ei
        · cases ei
    · cases ei
end
end Ev
end
section
set_option maxRecDepth 100000
set_option maxHeartbeats 4000000
/-! Ev, part 6: slices, isinstance, built-in functions and methods, stores. -/
namespace Ev
open PySem PySem.Spec PyProof.Rows L2
section
variable {G : Pg} {X : Cx} {m : List Addr} {H : Hp} {S : Store}
theorem noEx_slc (b : Bool) (d : D) (lo hi : Option Int) (S : Store) : NoEx (slcD b d lo hi S) := by
  intro c k S' h
  unfold slcD at h
  repeat' split at h
  all_goals first
    | (cases h; done)
    | exact noEx_mkL _ _ _ _ _ _ h
theorem sIx_eq (n d : Nat) (o : Option Int) : sIx n d o = HT.sIx n d o := by cases o <;> rfl
theorem cutS_eq (l : List Nat) (lo hi : Option Int) : cutS ⟨l.toArray⟩ lo hi = ⟨(cut l lo hi).toArray⟩ := by
  unfold cutS cut
  simp only [str_len, sIx_eq, List.toList_toArray]
/-- s[lo:hi] -/
theorem op_slc (hK : X.K = G.K) (b : Bool) : SlR X (fun x lo hi H Q => (∃ m S d, RS G m H S ∧ Rep G m H d x ∧ (∀ s, d = .str s → s.length ≤ LIM) ∧ FinV G (Rep G) m H (slcD b d lo hi S) Q)) := by
  intro pins s σ H x v vl vu lo hi sl Q I rx hs pl pu ⟨m, S, d, rs, rd, hz, h⟩
  unfold slcD at h
  split at h
  · rename_i l
    obtain ⟨p, vs, rfl, f, r⟩ := rd.tup_inv
    refine sl_tupA pins s σ H _ v vl vu lo hi sl Q I rx hs pl pu ⟨p, vs, rfl, by rw [hK]; exact f.sq, fun hw => ?_, fun _ q n => fin_tup rs (r.cut lo hi) n h⟩
    have e : cutV vs lo hi = vs := by
      unfold cutV
      rw [hw.1, hw.2]
      simp
    have r2 := r.cut lo hi
    rw [e] at r2
    exact fin_same rs (rep_tup f r2) h
  · rename_i l
    rw [if_pos (hz _ rfl)] at h
    refine sl_str pins s σ H x v vl vu lo hi sl Q I rx hs pl pu ⟨_, rd.str_inv, ?_, ?_⟩
    · rw [str_len, ← lim]; exact hz _ rfl
    · rw [cutS_eq]
      exact fin_same rs rep_str h
  · split at h
    · rename_i l e
      obtain ⟨p, vs, rfl, hp, r⟩ := lstOf_sq rs rd e
      exact sl_list pins s σ H _ v vl vu lo hi sl Q I rx hs pl pu ⟨p, vs, rfl, sq_of hp, fun q n => fin_mk rs (r.cut lo hi) n h⟩
    · exact h.elim
/-! #### isinstance -/
def Bt.nm : Bt → String
  | .int => "int" | .bool => "bool" | .str => "str" | .tuple => "tuple" | .list => "list" | .dict => "dict"
/-- the class at C, as isinstance and the walks ask it -/
structure ClsOk (G : Pg) (c : Nat) : Prop where
  cls : Cls G.K (G.ca c)
  ga : PySem.W.findIn G.K (.ref (G.ca c)) "__class__" = some (some (.builtin "object.__class__"))
  gs : PySem.W.specialIn G.K (.builtin "object.__class__") "__get__" = some (some (.builtin "getset_descriptor.__get__"))
  tk : PySem.W.takesIn G.K (.builtin "object.__class__") = some true
  mo : PySem.W.mroIn G.K (G.ca c) (.type "object") = some true
  bt : ∀ t : Bt, PySem.W.kitOne G.K (.ref (G.ca c)) (.type t.nm) = some false
  oc : ∀ k, k < G.T.cls.length → PySem.W.kitOne G.K (.ref (G.ca c)) (.ref (G.ca k)) = some (c == k)
  ty : ∀ n : String, n ∈ ["NoneType", "bool", "int", "str", "tuple", "list", "dict"] → PySem.W.kitOne G.K (.type n) (.ref (G.ca c)) = some false
/-- what of the classes is known -/
def AllCls (G : Pg) : Prop := ∀ c, c < G.T.cls.length → ClsOk G c
def Ty.val (G : Pg) : Ty → V
  | .b t => .ty t.nm
  | .c k => .ref (G.ca k)
def Ty.vlu (G : Pg) : Ty → Value
  | .b t => .type t.nm
  | .c k => .ref (G.ca k)
theorem ty_clsV (t : Ty) : ClsV (t.val G) (t.vlu G) := by
  cases t with
  | b t => exact .ty _
  | c k => exact .own _
/-- the built-in type of a value that is no instance -/
def tyN (d : D) (S : Store) : Option String := match d with
  | .non => some "NoneType"
  | .bl _ => some "bool"
  | .int _ => some "int"
  | .str _ => some "str"
  | .tup _ => some "tuple"
  | .lst _ => some "list"
  | .ref n => match S[n]? with
    | some (.lst _) => some "list"
    | _ => none
  | .obj _ _ => none
theorem tyN_tyx {d : D} {v : V} {n : String} (rs : RS G m H S) (r : Rep G m H d v) (h : tyN d S = some n) : TyX G.K H v (.type n) := by
  unfold tyN at h
  split at h
  · cases h; rw [r.non_inv]; exact .base .non
  · cases h; rw [r.bl_inv]; exact .base (.bl _)
  · cases h; rw [r.int_inv]; exact .base (.int _)
  · cases h; rw [r.str_inv]; exact .base (.str _)
  · cases h
    obtain ⟨p, vs, rfl, f, _⟩ := r.tup_inv
    rcases f with ⟨_, f | ⟨o, f⟩⟩ | ⟨o, its, k, e, c, _⟩
    · exact .base (.tup f)
    · exact .fTuple f
    · exact .kTuple e c
  · cases h
    obtain ⟨p, vs, rfl, f, _⟩ := r.lst_inv
    rcases f with ⟨_, f | ⟨o, f⟩⟩
    · exact .base (.lst f)
    · exact .base (.frz f)
  · split at h
    · rename_i l e
      cases h
      obtain ⟨p, rfl, hp⟩ := r.ref_inv
      obtain ⟨p', hp', vs, hv, _⟩ := rs.cel _ _ e
      rw [hp] at hp'; cases hp'
      exact .base (.lst hv)
    · cases h
  · cases h
theorem tyN_mem {d : D} {n : String} (h : tyN d S = some n) : n ∈ ["NoneType", "bool", "int", "str", "tuple", "list", "dict"] := by
  unfold tyN at h
  repeat' split at h
  all_goals first
    | (cases h; decide)
    | (cases h; done)
/-- an instance: its class -/
def insC (d : D) (S : Store) : Option Nat := match d with
  | .obj c _ => some c
  | .ref n => match S[n]? with
    | some (.ins c _) => some c
    | _ => none
  | _ => none
theorem insC_at {d : D} {v : V} {c : Nat} (rs : RS G m H S) (r : Rep G m H d v) (h : insC d S = some c) : ∃ p dx fs, v = .ref p ∧ H p = some (.ins (G.ca c) dx fs) := by
  unfold insC at h
  split at h
  · cases h
    obtain ⟨p, vs, rfl, ⟨_, dx, f⟩, _⟩ := r.obj_inv
    exact ⟨p, dx, _, rfl, f⟩
  · split at h
    · rename_i c' fs e
      cases h
      obtain ⟨p, rfl, hp⟩ := r.ref_inv
      obtain ⟨p', hp', dx, vs, hv, _⟩ := rs.cel _ _ e
      rw [hp] at hp'; cases hp'
      exact ⟨p, dx, _, rfl, hv⟩
    · cases h
  · cases h
theorem ins_tyx {v : V} {c : Nat} (k : ClsOk G c) {p dx : Addr} {fs : List (Str × V)} (e : v = .ref p) (h : H p = some (.ins (G.ca c) dx fs)) : TyX G.K H v (.ref (G.ca c)) := by
  subst e
  exact .base (.ins h k.cls k.ga k.gs k.tk k.mo)
/-- no instance, no built-in value: then isD tells nothing -/
theorem isD_some {d : D} {t : Ty} {b : Bool} (h : isD G.T d S t = some b) : (∃ n, tyN d S = some n ∧ insC d S = none) ∨ ∃ c, insC d S = some c ∧ c < G.T.cls.length ∧ tyN d S = none := by
  unfold isD at h
  cases d with
  | ref z =>
    cases t with
    | b t =>
      dsimp only at h
      split at h
      · rename_i l e; exact .inl ⟨"list", by simp only [tyN, e], by simp only [insC, e]⟩
      · rename_i c fs e
        split at h
        · rename_i hc; exact .inr ⟨c, by simp only [insC, e], hc, by simp only [tyN, e]⟩
        · cases h
      · cases h
    | c k =>
      dsimp only at h
      split at h
      · split at h
        · rename_i l e; exact .inl ⟨"list", by simp only [tyN, e], by simp only [insC, e]⟩
        · rename_i c fs e
          split at h
          · rename_i hc; exact .inr ⟨c, by simp only [insC, e], hc, by simp only [tyN, e]⟩
          · cases h
        · cases h
      · cases h
  | obj c l =>
    cases t with
    | b t =>
      dsimp only at h
      split at h
      · rename_i hc; exact .inr ⟨c, rfl, hc, rfl⟩
      · cases h
    | c k =>
      dsimp only at h
      split at h
      · split at h
        · rename_i hc; exact .inr ⟨c, rfl, hc, rfl⟩
        · cases h
      · cases h
  | non => exact .inl ⟨_, rfl, rfl⟩
  | bl _ => exact .inl ⟨_, rfl, rfl⟩
  | int _ => exact .inl ⟨_, rfl, rfl⟩
  | str _ => exact .inl ⟨_, rfl, rfl⟩
  | tup _ => exact .inl ⟨_, rfl, rfl⟩
  | lst _ => exact .inl ⟨_, rfl, rfl⟩
/-- the class that isinstance looks at -/
def clV (G : Pg) (d : D) (S : Store) : Value := match tyN d S with
  | some n => .type n
  | none => match insC d S with
    | some c => .ref (G.ca c)
    | none => .none
theorem clV_tyx (ac : AllCls G) {d : D} {v : V} {t : Ty} {b : Bool} (rs : RS G m H S) (r : Rep G m H d v) (h : isD G.T d S t = some b) : TyX G.K H v (clV G d S) := by
  rcases isD_some h with ⟨n, hn, _⟩ | ⟨c, hi, hc, hn⟩
  · unfold clV
    rw [hn]
    exact tyN_tyx rs r hn
  · unfold clV
    rw [hn, hi]
    obtain ⟨p, dx, fs, ev, hp⟩ := insC_at rs r hi
    exact ins_tyx (ac c hc) ev hp
theorem isD_kit (ac : AllCls G) {d : D} {t : Ty} {b : Bool} (h : isD G.T d S t = some b) : PySem.W.kitOne G.K (clV G d S) (t.vlu G) = some b := by
  rcases isD_some h with ⟨n, hn, _⟩ | ⟨c, hi, hc, hn⟩
  · unfold clV
    rw [hn]
    cases t with
    | b t =>
      show PySem.W.kitOne G.K (.type n) (.type t.nm) = some b
      unfold isD at h
      unfold tyN at hn
      cases d with
      | non => cases hn; cases h; cases t <;> exact kit_ty (by decide +kernel)
      | bl z => cases hn; cases h; cases t <;> exact kit_ty (by decide +kernel)
      | int z => cases hn; cases h; cases t <;> exact kit_ty (by decide +kernel)
      | str z => cases hn; cases h; cases t <;> exact kit_ty (by decide +kernel)
      | tup z => cases hn; cases h; cases t <;> exact kit_ty (by decide +kernel)
      | lst z => cases hn; cases h; cases t <;> exact kit_ty (by decide +kernel)
      | ref z =>
        dsimp only at h hn
        split at hn
        · rename_i l e
          rw [e] at h
          cases hn; cases h; cases t <;> exact kit_ty (by decide +kernel)
        · cases hn
      | obj c l => cases hn
    | c k =>
      show PySem.W.kitOne G.K (.type n) (.ref (G.ca k)) = some b
      have hb : b = false ∧ k < G.T.cls.length := by
        unfold isD at h
        unfold tyN at hn
        dsimp only at h
        split at h
        · rename_i hk
          refine ⟨?_, hk⟩
          cases d with
          | ref z =>
            dsimp only at h hn
            split at hn
            · rename_i l e
              rw [e] at h
              cases h; rfl
            · cases hn
          | obj c l => cases hn
          | _ => cases h; rfl
        · cases h
      rw [hb.1]
      exact (ac k hb.2).ty n (tyN_mem hn)
  · unfold clV
    rw [hn, hi]
    cases t with
    | b t =>
      have hb : b = false := by
        unfold insC at hi
        unfold isD at h
        cases d with
        | ref z =>
          dsimp only at h hi
          split at hi
          · rename_i c' fs' e
            cases hi
            rw [e] at h
            dsimp only at h
            rw [if_pos hc] at h
            cases h; rfl
          · cases hi
        | obj c' l =>
          cases hi
          dsimp only at h
          rw [if_pos hc] at h
          cases h; rfl
        | _ => cases hi
      rw [hb]
      exact (ac c hc).bt t
    | c k =>
      have hb : b = (c == k) ∧ k < G.T.cls.length := by
        unfold insC at hi
        unfold isD at h
        dsimp only at h
        split at h
        · rename_i hk
          refine ⟨?_, hk⟩
          cases d with
          | ref z =>
            dsimp only at h hi
            split at hi
            · rename_i c' fs' e
              cases hi
              rw [e] at h
              dsimp only at h
              rw [if_pos hc] at h
              cases h; rfl
            · cases hi
          | obj c' l =>
            cases hi
            dsimp only at h
            rw [if_pos hc] at h
            cases h; rfl
          | _ => cases hi
        · cases h
      rw [hb.1]
      exact (ac c hc).oc k hb.2
theorem isAny_kit (ac : AllCls G) {d : D} : ∀ {ts : List Ty} {b : Bool}, isAny G.T d S ts = some b → PySem.W.kitAny G.K (clV G d S) (ts.map fun t => t.vlu G) = some b
  | [], _, h => by cases h; rfl
  | t :: ts, b, h => by
    unfold isAny at h
    cases e : isD G.T d S t with
    | none => rw [e] at h; cases h
    | some b1 =>
      have q2 := isD_kit ac e
      rw [e] at h
      cases b1 with
      | true => cases h; exact kitAny_cons q2 (fun z => by cases z) fun _ => rfl
      | false => exact kitAny_cons q2 (fun _ => isAny_kit ac h) fun z => by cases z
theorem isAny_tyx (ac : AllCls G) {d : D} {v : V} {t : Ty} {ts : List Ty} {b : Bool} (rs : RS G m H S) (r : Rep G m H d v) (h : isAny G.T d S (t :: ts) = some b) : TyX G.K H v (clV G d S) := by
  unfold isAny at h
  cases e : isD G.T d S t with
  | none => rw [e] at h; cases h
  | some b1 => exact clV_tyx ac rs r e
theorem isAny_one {d : D} {t : Ty} {b : Bool} (h : isAny G.T d S [t] = some b) : isD G.T d S t = some b := by
  unfold isAny at h
  cases e : isD G.T d S t with
  | none => rw [e] at h; cases h
  | some b1 => rw [e] at h; cases b1 <;> (cases h; rfl)
end
end Ev
end
section
set_option maxRecDepth 100000
set_option maxHeartbeats 4000000
/-! Ev, part 7: built-in functions and methods. -/
namespace Ev
open PySem PySem.Spec PyProof.Rows L2
def Bi.val : Bi → Value
  | .len => .builtin "len" | .abs => .builtin "abs" | .min => .builtin "min" | .max => .builtin "max" | .sum => .builtin "sum"
  | .sorted => .builtin "sorted" | .all => .builtin "all" | .any => .builtin "any"
  | .int => .type "int" | .str => .type "str" | .list => .type "list" | .tuple => .type "tuple" | .bool => .type "bool"
def rBi (G : Pg) (b : Bi) (k : Bool) : List V → Hp → VK → Prop := fun vs H Q => ∃ m S ds, RS G m H S ∧ RepL G m H ds vs ∧ FinV G (Rep G) m H (biD b k ds S) Q
section
variable {G : Pg} {X : Cx} {m : List Addr} {H : Hp} {S : Store}
theorem noEx_bi (b : Bi) (k : Bool) (ds : List D) (S : Store) : NoEx (biD b k ds S) := by
  intro c l S' h
  unfold biD at h
  repeat' split at h
  all_goals first
    | (cases h; done)
    | exact noEx_mkL _ _ _ _ _ _ h
theorem ints_of : ∀ {l : List D} {ns : List Int} {vs : List V}, allInt l = some ns → RepL G m H l vs → vs = ns.map V.int ∧ l = ns.map D.int
  | [], ns, vs, h, r => by
    simp only [allInt] at h; cases h
    simp only [RepL] at r; subst r
    exact ⟨rfl, rfl⟩
  | d :: l, ns, vs, h, r => by
    simp only [RepL] at r
    obtain ⟨v, us, rfl, r1, r2⟩ := r
    cases d with
    | int i =>
      simp only [allInt] at h
      cases e : allInt l with
      | none => rw [e] at h; cases h
      | some ms =>
        rw [e] at h; cases h
        obtain ⟨e1, e2⟩ := ints_of e r2
        rw [r1.int_inv, e1]
        exact ⟨rfl, by rw [e2]; rfl⟩
    | _ => simp [allInt] at h
theorem bls_of : ∀ {l : List D} {bs : List Bool} {vs : List V}, allBl l = some bs → RepL G m H l vs → vs = bs.map V.bl
  | [], ns, vs, h, r => by
    simp only [allBl] at h; cases h
    simp only [RepL] at r; subst r
    rfl
  | d :: l, ns, vs, h, r => by
    simp only [RepL] at r
    obtain ⟨v, us, rfl, r1, r2⟩ := r
    cases d with
    | bl i =>
      simp only [allBl] at h
      cases e : allBl l with
      | none => rw [e] at h; cases h
      | some ms =>
        rw [e] at h; cases h
        rw [r1.bl_inv, bls_of e r2]
        rfl
    | _ => simp [allBl] at h
theorem v_ints_inj : ∀ {l r : List Int}, l.map V.int = r.map V.int → l = r
  | [], [], _ => rfl
  | [], _ :: _, h => by simp at h
  | _ :: _, [], h => by simp at h
  | x :: l, y :: r, h => by
    simp only [List.map_cons, List.cons.injEq, V.int.injEq] at h
    rw [h.1, v_ints_inj h.2]
theorem rep_tupI {l : List Int} {v : V} (r : Rep G m H (.tup (l.map .int)) v) : ∃ t, v = V.ref t ∧ SqT G.K H t (l.map V.int) := by
  obtain ⟨p, vs, rfl, f, rl⟩ := r.tup_inv
  have e : allInt (l.map D.int) = some l := by
    clear r rl f
    induction l with
    | nil => rfl
    | cons x l ih => simp [allInt, ih]
  obtain ⟨e1, _⟩ := ints_of e rl
  exact ⟨p, rfl, by rw [← e1]; exact f.sq⟩
inductive F2 {α β : Type} (P : α → β → Prop) : List α → List β → Prop
  | nil : F2 P [] []
  | cons {a : α} {b : β} {l : List α} {r : List β} : P a b → F2 P l r → F2 P (a :: l) (b :: r)
theorem tupsAt : ∀ {l : List D} {ls : List (List Int)} {vs : List V}, allTup l = some ls → RepL G m H l vs → F2 (fun v q => q ≠ [] ∧ Rep G m H (tupI q) v) vs ls
  | [], _, vs, h, r => by
    simp only [allTup] at h; cases h
    simp only [RepL] at r; subst r
    exact .nil
  | d :: l, _, vs, h, r => by
    simp only [RepL] at r
    obtain ⟨v, us, rfl, r1, r2⟩ := r
    cases d with
    | tup k =>
      simp only [allTup] at h
      split at h
      · rename_i x xs q e1 e2
        cases h
        refine .cons ⟨by simp, ?_⟩ (tupsAt e2 r2)
        obtain ⟨p, ws, rfl, f, rl⟩ := r1.tup_inv
        obtain ⟨_, e3⟩ := ints_of e1 rl
        unfold tupI
        rw [← e3]
        exact r1
      · cases h
    | _ => simp [allTup] at h
theorem tups_of {K : PySem.W.Frag} {l : List D} {ls : List (List Int)} {vs : List V} (inj : ∀ t xs ys, SqT G.K H t xs → SqT G.K H t ys → xs = ys) (h : allTup l = some ls) (r : RepL G m H l vs) :
    ∃ k : V → List Int, vs.map k = ls ∧ ∀ x ∈ vs, ∃ t, x = V.ref t ∧ SqT G.K H t ((k x).map V.int) ∧ k x ≠ [] ∧ Rep G m H (tupI (k x)) x := by
  have q := tupsAt h r
  classical
  let k : V → List Int := fun x => if e : ∃ l, Rep G m H (tupI l) x then e.choose else []
  have hk : ∀ x l, Rep G m H (tupI l) x → k x = l := by
    intro x l hl
    have e : ∃ l, Rep G m H (tupI l) x := ⟨l, hl⟩
    have e1 : k x = e.choose := dif_pos e
    rw [e1]
    obtain ⟨t, rfl, a1⟩ := rep_tupI e.choose_spec
    obtain ⟨t', e2, a2⟩ := rep_tupI hl
    cases e2
    exact v_ints_inj (inj _ _ _ a1 a2)
  refine ⟨k, ?_, fun x hx => ?_⟩
  · clear h r
    induction q with
    | nil => rfl
    | cons a _ ih => rw [List.map_cons, hk _ _ a.2, ih]
  · have : ∃ l, l ≠ [] ∧ Rep G m H (tupI l) x := by
      clear h r
      induction q with
      | nil => simp at hx
      | cons a _ ih =>
        rcases List.mem_cons.mp hx with rfl | hx
        · exact ⟨_, a⟩
        · exact ih hx
    obtain ⟨l, h1, h2⟩ := this
    obtain ⟨t, rfl, h3⟩ := rep_tupI h2
    have e := hk _ _ h2
    exact ⟨t, rfl, by rw [e]; exact h3, by rw [e]; exact h1, by rw [e]; exact h2⟩
theorem repTups {k : V → List Int} : ∀ (ys : List V), (∀ y ∈ ys, Rep G m H (tupI (k y)) y) → RepL G m H ((ys.map k).map tupI) ys
  | [], _ => RepL.nil
  | y :: ys, h => RepL.cons (h y List.mem_cons_self) (repTups ys fun z hz => h z (List.mem_cons_of_mem _ hz))
theorem repInts : ∀ (ns : List Int), RepL G m H (ns.map D.int) (ns.map V.int)
  | [] => RepL.nil
  | n :: ns => RepL.cons rep_int (repInts ns)
theorem insI_perm (x : Int) : ∀ l : List Int, (insI x l).Perm (x :: l)
  | [] => List.Perm.refl _
  | y :: r => by
    unfold insI
    split
    · exact List.Perm.refl _
    · exact ((insI_perm x r).cons y).trans (List.Perm.swap x y r)
theorem sortI_perm : ∀ l : List Int, (sortI l).Perm l
  | [] => List.Perm.refl _
  | x :: r => (insI_perm x (sortI r)).trans ((sortI_perm r).cons x)
theorem insI_sorted (x : Int) : ∀ l : List Int, l.Pairwise (· ≤ ·) → (insI x l).Pairwise (· ≤ ·)
  | [], _ => by simp [insI]
  | y :: r, h => by
    unfold insI
    have h1 := List.pairwise_cons.mp h
    split
    · rename_i hxy
      refine List.pairwise_cons.mpr ⟨fun z hz => ?_, h⟩
      rcases List.mem_cons.mp hz with e | hz
      · rw [e]; exact hxy
      · have := h1.1 z hz; omega
    · rename_i hxy
      refine List.pairwise_cons.mpr ⟨fun z hz => ?_, insI_sorted x r h1.2⟩
      have := (insI_perm x r).mem_iff.mp hz
      rcases List.mem_cons.mp this with e | hz
      · omega
      · exact h1.1 z hz
theorem sortI_sorted : ∀ l : List Int, (sortI l).Pairwise (· ≤ ·)
  | [] => List.Pairwise.nil
  | x :: r => insI_sorted x _ (sortI_sorted r)
theorem sortI_uniq {l r : List Int} (p : r.Perm l) (s : r.Pairwise (· ≤ ·)) : r = sortI l :=
  List.Perm.eq_of_pairwise (fun a b _ _ h1 h2 => by omega) s (sortI_sorted l) (p.trans (sortI_perm l).symm)
theorem maxI_spec : ∀ (l : List Int) (a : Int), maxI a l ∈ a :: l ∧ ∀ y ∈ a :: l, y ≤ maxI a l
  | [], a => by simp [maxI]
  | x :: r, a => by
    unfold maxI
    obtain ⟨h1, h2⟩ := maxI_spec r (if x > a then x else a)
    generalize hb : (if x > a then x else a) = b at h1 h2
    have hb2 : (b = x ∨ b = a) ∧ x ≤ b ∧ a ≤ b := by split at hb <;> omega
    have q := h2 b (List.mem_cons_self ..)
    refine ⟨?_, fun y hy => ?_⟩
    · rcases List.mem_cons.mp h1 with e | e
      · rw [e]
        rcases hb2.1 with z | z
        · rw [z]; simp
        · rw [z]; simp
      · simp [e]
    · rcases List.mem_cons.mp hy with e | hy
      · omega
      · rcases List.mem_cons.mp hy with e | hy
        · omega
        · exact h2 y (List.mem_cons_of_mem _ hy)
theorem minI_spec : ∀ (l : List Int) (a : Int), minI a l ∈ a :: l ∧ ∀ y ∈ a :: l, minI a l ≤ y
  | [], a => by simp [minI]
  | x :: r, a => by
    unfold minI
    obtain ⟨h1, h2⟩ := minI_spec r (if x < a then x else a)
    generalize hb : (if x < a then x else a) = b at h1 h2
    have hb2 : (b = x ∨ b = a) ∧ b ≤ x ∧ b ≤ a := by split at hb <;> omega
    have q := h2 b (List.mem_cons_self ..)
    refine ⟨?_, fun y hy => ?_⟩
    · rcases List.mem_cons.mp h1 with e | e
      · rw [e]
        rcases hb2.1 with z | z
        · rw [z]; simp
        · rw [z]; simp
      · simp [e]
    · rcases List.mem_cons.mp hy with e | hy
      · omega
      · rcases List.mem_cons.mp hy with e | hy
        · omega
        · exact h2 y (List.mem_cons_of_mem _ hy)
theorem sumI_eq : ∀ l : List Int, l.sum = sumI l
  | [] => rfl
  | x :: r => by rw [List.sum_cons, sumI_eq r]; rfl
theorem one_inv {d : D} {vs : List V} (r : RepL G m H [d] vs) : ∃ v, vs = [v] ∧ Rep G m H d v := by
  simp only [RepL] at r
  obtain ⟨v, us, rfl, r1, rfl⟩ := r
  exact ⟨v, rfl, r1⟩
theorem two_inv {d e : D} {vs : List V} (r : RepL G m H [d, e] vs) : ∃ v u, vs = [v, u] ∧ Rep G m H d v ∧ Rep G m H e u := by
  simp only [RepL] at r
  obtain ⟨v, us, rfl, r1, u, ws, rfl, r2, rfl⟩ := r
  exact ⟨v, u, rfl, r1, r2⟩
theorem ofInt_str (i : Int) : ((toString i : String) : Str) = ⟨((toString i).toList.map Char.toNat).toArray⟩ := PySem.Str.ofString_eq_toList _
theorem call_bi (hK : X.K = G.K) (hc : X.calm = true) (b : Bi) (k : Bool) : CallR X b.val (rBi G b k) := by
  intro pins s σ H vs us Q I rv ⟨m, S, ds, rs, r, h⟩
  unfold biD at h
  split at h
  · -- len
    rename_i d
    obtain ⟨v, rfl, rd⟩ := one_inv r
    split at h
    · rename_i t
      split at h
      · rename_i hz
        refine call_len_str pins s σ H _ us Q I rv ⟨_, by rw [rd.str_inv], ?_, ?_⟩
        · rw [str_len, ← lim]; exact hz
        · rw [str_len]
          exact fin_same rs rep_int h
      · exact h.elim
    · split at h
      · rename_i l e
        obtain ⟨p, xs, rfl, hp, rl⟩ := seqOf_sq rs rd e
        refine call_len_seq pins s σ H _ us Q I rv ⟨p, xs, rfl, ?_, ?_⟩
        · rcases hp with hp | hp
          · exact .inl (sq_of hp)
          · exact .inr (by rw [hK]; exact hp)
        · rw [← rl.length]
          exact fin_same rs rep_int h
      · exact h.elim
  · -- abs
    obtain ⟨v, rfl, rd⟩ := one_inv r
    exact call_abs pins s σ H _ us Q I rv ⟨_, by rw [rd.int_inv], fin_same rs rep_int h⟩
  · -- min of two
    obtain ⟨v, u, rfl, rd, re⟩ := two_inv r
    exact call_min2 hc pins s σ H _ us Q I rv ⟨_, _, by rw [rd.int_inv, re.int_inv], fin_same rs rep_int h⟩
  · -- max of two
    obtain ⟨v, u, rfl, rd, re⟩ := two_inv r
    exact call_max2 hc pins s σ H _ us Q I rv ⟨_, _, by rw [rd.int_inv, re.int_inv], fin_same rs rep_int h⟩
  · -- min of a list
    obtain ⟨v, rfl, rd⟩ := one_inv r
    split at h
    · rename_i l e
      split at h
      · rename_i x t e2
        obtain ⟨p, xs, rfl, hp, rl⟩ := lstOf_sq rs rd e
        obtain ⟨e3, _⟩ := ints_of e2 rl
        refine cr_min hc pins s σ H _ us Q I rv ⟨p, x :: t, rfl, by rw [← e3]; exact sq_of hp, by simp, fun z h1 h2 => ?_⟩
        obtain ⟨s1, s2⟩ := minI_spec t x
        have : z = minI x t := by
          have a1 := h2 _ s1
          have a2 := s2 z h1
          omega
        rw [this]
        exact fin_same rs rep_int h
      · exact h.elim
    · exact h.elim
  · -- max of a list
    obtain ⟨v, rfl, rd⟩ := one_inv r
    split at h
    · rename_i l e
      split at h
      · rename_i x t e2
        obtain ⟨p, xs, rfl, hp, rl⟩ := lstOf_sq rs rd e
        obtain ⟨e3, _⟩ := ints_of e2 rl
        refine cr_max hc pins s σ H _ us Q I rv ⟨p, x :: t, rfl, by rw [← e3]; exact sq_of hp, by simp, fun z h1 h2 => ?_⟩
        obtain ⟨s1, s2⟩ := maxI_spec t x
        have : z = maxI x t := by
          have a1 := h2 _ s1
          have a2 := s2 z h1
          omega
        rw [this]
        exact fin_same rs rep_int h
      · exact h.elim
    · exact h.elim
  · -- sum
    obtain ⟨v, rfl, rd⟩ := one_inv r
    split at h
    · rename_i l e
      split at h
      · rename_i ns e2
        obtain ⟨p, xs, rfl, hp, rl⟩ := seqOf_sq rs rd e
        obtain ⟨e3, _⟩ := ints_of e2 rl
        have hp' : SqL X.K H p xs ∨ SqT X.K H p xs := by
          rcases hp with hp | hp
          · exact .inl (sq_of hp)
          · exact .inr (by rw [hK]; exact hp)
        refine cr_sum2 hc pins s σ H _ us Q I rv ⟨p, ns, rfl, by rw [← e3]; exact hp', ?_⟩
        rw [sumI_eq]
        exact fin_same rs rep_int h
      · exact h.elim
    · exact h.elim
  · -- sorted
    obtain ⟨v, rfl, rd⟩ := one_inv r
    split at h
    · rename_i l e
      obtain ⟨p, xs, rfl, hp, rl⟩ := seqOf_sq rs rd e
      have hp' : SqL X.K H p xs ∨ SqT X.K H p xs := by
        rcases hp with hp | hp
        · exact .inl (sq_of hp)
        · exact .inr (by rw [hK]; exact hp)
      split at h
      · rename_i ns e2
        obtain ⟨e3, _⟩ := ints_of e2 rl
        refine cr_sortI2 pins s σ H _ us Q I rv ⟨p, ns, rfl, by rw [← e3]; exact hp', fun ns' q h1 h2 hq => ?_⟩
        rw [sortI_uniq h1 h2]
        exact fin_mk rs (repInts _) hq h
      · split at h
        · rename_i ls e2
          obtain ⟨k, hk1, hk2⟩ := tups_of (K := G.K) (fun t l l' h1 h2 => I.tuple_inj (by rw [hK]; exact h1) (by rw [hK]; exact h2)) e2 rl
          refine cr_sortT2 pins s σ H _ us Q I rv ⟨p, xs, k, rfl, hp', fun x hx => ?_, fun ys q h1 h2 hq => ?_⟩
          · obtain ⟨t, e3, e4, e5, _⟩ := hk2 x hx
            exact ⟨t, e3, by rw [hK]; exact e4, e5⟩
          · have e6 : ys.map k = sortT ls := sortT_uniq (by rw [← hk1]; exact h1.map k) h2
            refine fin_mk rs ?_ hq h
            rw [← e6]
            exact repTups ys fun y hy => (hk2 y (h1.mem_iff.mp hy)).choose_spec.2.2.2
        · exact h.elim
    · exact h.elim
  · -- all
    obtain ⟨v, rfl, rd⟩ := one_inv r
    split at h
    · rename_i l e
      split at h
      · rename_i bs e2
        obtain ⟨p, xs, rfl, hp, rl⟩ := lstOf_sq rs rd e
        have e3 := bls_of e2 rl
        exact cr_all hc pins s σ H _ us Q I rv ⟨p, bs, rfl, by rw [← e3]; exact sq_of hp, fin_same rs rep_bl h⟩
      · exact h.elim
    · exact h.elim
  · -- any
    obtain ⟨v, rfl, rd⟩ := one_inv r
    split at h
    · rename_i l e
      split at h
      · rename_i bs e2
        obtain ⟨p, xs, rfl, hp, rl⟩ := lstOf_sq rs rd e
        have e3 := bls_of e2 rl
        exact cr_any hc pins s σ H _ us Q I rv ⟨p, bs, rfl, by rw [← e3]; exact sq_of hp, fin_same rs rep_bl h⟩
      · exact h.elim
    · exact h.elim
  · -- int of an int
    obtain ⟨v, rfl, rd⟩ := one_inv r
    exact call_int1 pins s σ H _ us Q I rv (.inl ⟨_, by rw [rd.int_inv], fin_same rs rep_int h⟩)
  · obtain ⟨v, rfl, rd⟩ := one_inv r
    exact call_int1 pins s σ H _ us Q I rv (.inr ⟨_, by rw [rd.bl_inv], fin_same rs rep_int h⟩)
  · -- str of an int
    obtain ⟨v, rfl, rd⟩ := one_inv r
    split at h
    · rename_i hz
      refine call_str_int pins s σ H _ us Q I rv ⟨_, by rw [rd.int_inv], hz, ?_⟩
      rw [ofInt_str]
      exact fin_same rs rep_str h
    · exact h.elim
  · -- list
    obtain ⟨v, rfl, rd⟩ := one_inv r
    split at h
    · rename_i l e
      obtain ⟨p, xs, rfl, hp, rl⟩ := seqOf_sq rs rd e
      refine call_list_of pins s σ H _ us Q I rv ⟨p, xs, rfl, ?_, fun q hq => fin_mk rs rl hq h⟩
      rcases hp with hp | hp
      · exact .inl (sq_of hp)
      · exact .inr (by rw [hK]; exact hp)
    · exact h.elim
  · -- tuple
    rename_i d
    obtain ⟨v, rfl, rd⟩ := one_inv r
    split at h
    · rename_i l e
      refine call_tuple_of pins s σ H _ us Q I rv ?_
      unfold seqOf at e
      split at e
      · cases e
        obtain ⟨p, xs, rfl, f, rl⟩ := rd.tup_inv
        exact ⟨p, xs, rfl, .inr ⟨by rw [hK]; exact f.sq, fin_same rs (rep_tup f rl) h⟩⟩
      · cases e
        obtain ⟨p, xs, rfl, f, rl⟩ := rd.lst_inv
        exact ⟨p, xs, rfl, .inl ⟨sq_of f.2, fun q hq => fin_tup rs rl hq h⟩⟩
      · split at e
        · rename_i l' e2
          cases e
          obtain ⟨p, rfl, hp⟩ := rd.ref_inv
          obtain ⟨p', hp', xs, hv, rl⟩ := rs.cel _ _ e2
          rw [hp] at hp'; cases hp'
          exact ⟨p, xs, rfl, .inl ⟨.inl (.inl hv), fun q hq => fin_tup rs rl hq h⟩⟩
        · cases e
      · cases e
    · exact h.elim
  · obtain ⟨v, rfl, rd⟩ := one_inv r
    exact call_bool1 pins s σ H _ us Q I rv (.inl ⟨_, by rw [rd.int_inv], fin_same rs rep_bl h⟩)
  · obtain ⟨v, rfl, rd⟩ := one_inv r
    exact call_bool1 pins s σ H _ us Q I rv (.inr ⟨_, by rw [rd.bl_inv], fin_same rs rep_bl h⟩)
  · exact h.elim
/-! #### methods of built-in types -/
def Bm.ty : Bm → String
  | .append => "list" | .pop => "list" | .extend => "list" | .index => "list" | .bitLength => "int"
def Bm.id : Bm → String
  | .append => "list.append" | .pop => "list.pop" | .extend => "list.extend" | .index => "list.index" | .bitLength => "int.bit_length"
def rBm (G : Pg) (b : Bm) : V → List V → Hp → VK → Prop := fun x vs H Q => ∃ m S d ds, RS G m H S ∧ Rep G m H d x ∧ RepL G m H ds vs ∧ FinV G (Rep G) m H (bmD b d ds S) Q
theorem noEx_bm (b : Bm) (d : D) (ds : List D) (S : Store) : NoEx (bmD b d ds S) := by
  intro c l S' h
  unfold bmD at h
  repeat' split at h
  all_goals first
    | (cases h; done)
    | exact noEx_mkL _ _ _ _ _ _ h
theorem cell_lst {n : Nat} {l : List D} {v : V} (rs : RS G m H S) (r : Rep G m H (.ref n) v) (e : S[n]? = some (.lst l)) : ∃ p vs, v = .ref p ∧ m[n]? = some p ∧ H p = some (.lst vs) ∧ RepL G m H l vs := by
  obtain ⟨p, rfl, hp⟩ := r.ref_inv
  obtain ⟨p', hp', vs, hv, rl⟩ := rs.cel _ _ e
  rw [hp] at hp'; cases hp'
  exact ⟨p, vs, rfl, hp, hv, rl⟩
/-- a cell's list is written anew -/
theorem fin_put {α β : Type} {R : List Addr → Hp → α → β → Prop} {a : α} {b : β} {n : Nat} {p : Addr} {l : List D} {vs : List V} {Q : β → Hp → Prop} (rs : RS G m H S) (hp : m[n]? = some p) (r : RepL G m H l vs) (q : R m (upd H p (.lst vs)) a b) (h : FinV G R m H (.ok a (S.set n (.lst l))) Q) : Q b (upd H p (.lst vs)) := by
  have x : Ext m H m (upd H p (.lst vs)) := Ext.write (List.mem_of_getElem? hp)
  exact h m _ b x (rs.write hp ⟨vs, upd_same, RepL.mono x _ _ r⟩) q
theorem mt_bm (b : Bm) : MtR X b.id (rBm G b) := by
  intro pins s σ H x vs v us Q I rx rv ⟨m, S, d, ds, rs, rd, r, h⟩
  unfold bmD at h
  split at h
  · -- append
    rename_i e
    obtain ⟨y, rfl, re⟩ := one_inv r
    split at h
    · rename_i n
      split at h
      · rename_i l el
        split at h
        · rename_i hz
          obtain ⟨p, xs, rfl, hp, hv, rl⟩ := cell_lst rs rd el
          refine mt_append pins s σ H _ _ v us Q I rx rv ⟨p, xs, y, rfl, rfl, hv, ?_, fin_put rs hp (rl.append (RepL.cons re RepL.nil)) rep_non h⟩
          rw [← rl.length, ← lim]; exact hz
        · exact h.elim
      · exact h.elim
    · exact h.elim
  · -- pop
    have ev : vs = [] := by simpa only [RepL] using r
    subst ev
    split at h
    · rename_i n
      split at h
      · rename_i l el
        split at h
        · rename_i e he
          obtain ⟨p, xs, rfl, hp, hv, rl⟩ := cell_lst rs rd el
          obtain ⟨y, hy, ry⟩ := rl.get he
          refine mt_pop pins s σ H _ _ v us Q I rx rv ⟨p, xs, y, rfl, rfl, hv, by rw [← rl.length]; exact hy, fin_put rs hp rl.dropLast (Rep.mono (Ext.write (List.mem_of_getElem? hp)) _ _ ry) h⟩
        · exact h.elim
      · exact h.elim
    · exact h.elim
  · -- bit_length
    have ev : vs = [] := by simpa only [RepL] using r
    subst ev
    split at h
    · have ex := rd.int_inv
      subst ex
      obtain ⟨t, rfl⟩ := rx
      cases rv
      exact call_int_bit_length ⟨.int _, H, I.tok _, ⟨_, rfl⟩, fin_same rs rep_int h⟩
    · exact h.elim
  · exact h.elim
/-- the receiver is of the method's type -/
theorem bm_ty {b : Bm} {d : D} {v : V} {K : PySem.W.Frag} (rs : RS G m H S) (r : Rep G m H d v) (h : bmOk b d S = true) : tyV K b.ty v H := by
  have cl : ∀ {n : Nat} {T : String} {Z : Prop}, d = .ref n → T = "list" → (match S[n]? with
      | some (.lst _) => true
      | _ => false) = true → tyV K T v H := fun {n T Z} e eT hm => by
    subst e eT
    split at hm
    · rename_i l el
      obtain ⟨p, vs, rfl, hp, hv, rl⟩ := cell_lst rs r el
      exact .inl ⟨rfl, vs, .inl (.inl hv)⟩
    · cases hm
  unfold bmOk at h
  split at h
  · split at h
    · rw [r.int_inv]; rfl
    · cases h
  · split at h
    · obtain ⟨p, vs, rfl, f, rl⟩ := r.lst_inv
      exact .inl ⟨rfl, vs, .inl f.2⟩
    · exact cl (Z := True) rfl rfl h
    · cases h
  · split at h
    · rename_i n1 n2 _ n
      have hb : b.ty = "list" := by cases b <;> first | rfl | exact (n1 rfl).elim | exact (n2 rfl).elim
      exact cl (Z := True) rfl hb h
    · cases h
/-! #### o[i] = v -/
theorem set_cell : PSet X (fun o i v H Q => ∃ m S d k x S', RS G m H S ∧ Rep G m H d o ∧ Rep G m H k i ∧ Rep G m H x v ∧ setI d k x S = some S' ∧ ∀ H', Ext m H m H' → RS G m H' S' → Q H') := by
  intro pins s σ H o i v ov iv u Q I ro ri rv ⟨m, S, d, k, x, S', rs, rd, rk, rx, e, q⟩
  unfold setI at e
  split at e
  · rename_i n j
    split at e
    · rename_i l el
      split at e
      · rename_i a ha
        cases e
        obtain ⟨p, xs, rfl, hp, hv, rl⟩ := cell_lst rs rd el
        have ei := rk.int_inv
        subst ei
        refine set_list pins s σ H _ _ v ov iv u Q I ro ri rv ⟨p, xs, j, a, rfl, rfl, hv, by rw [← rl.length, ← ixN_eq]; exact ha, ?_⟩
        have x : Ext m H m (upd H p (.lst (xs.set a v))) := Ext.write (List.mem_of_getElem? hp)
        exact q _ x (rs.write hp ⟨_, upd_same, RepL.mono x _ _ (rl.set rx a)⟩)
      · cases e
    · cases e
  · cases e
end
end Ev
end
section
set_option maxRecDepth 100000
set_option maxHeartbeats 4000000
/-! Ev, part 8: what stands around an expression; readings. -/
namespace Ev
open PySem PySem.Spec PyProof.Rows L2
/-- how keywords find their parameters -/
def KwOk (K : PySem.W.Frag) (fd : FuncData) (ps : List Str) (n : Nat) (ks : List Str) (pm : List Nat) : Prop :=
  ∀ (s : Shared) (us ws : List Value), K.In s.heap → us.length = n → ws.length = ks.length → ∃ xs, pick (us ++ ws) pm = some xs ∧ BindsTo s fd ⟨us, ks.zip ws⟩ (ps.zip xs)
/-- .. of an __init__: self ahead -/
def KwOkC (K : PySem.W.Frag) (fd : FuncData) (ps : List Str) (n : Nat) (ks : List Str) (pm : List Nat) : Prop :=
  ∀ (s : Shared) (z : Value) (us ws : List Value), K.In s.heap → us.length = n → ws.length = ks.length → ∃ xs, pick (us ++ ws) pm = some xs ∧ BindsTo s fd ⟨z :: us, ks.zip ws⟩ (ps.zip (z :: xs))
/-- a constant of the module -/
def GlbOk (G : Pg) (x : Str) (d : D) : Prop := ∃ u v, G.mg x = some u ∧ RelV v u ∧ ∀ m H, Rep G m H d v
def bltL : List Str := ["len", "abs", "min", "max", "sum", "sorted", "all", "any", "int", "str", "list", "tuple", "bool", "dict", "isinstance", "range", "enumerate", "zip", "reversed"]
/-- what the head gives: the classes, the functions, the constants -/
structure Hd (G : Pg) : Prop where
  cls : AllCls G
  mgb : ∀ x ∈ bltL, G.mg x = none
  atl : ∀ x ∈ G.M.atts, x.length < 1000
  atn : G.M.atts.Nodup
  fn : ∀ (f : Nat) (x : Str), G.M.fns[f]? = some x → x ≠ "" → G.mg x = some (.ref (G.fa f)) ∧ PySem.W.keepIn G.K (.ref (G.fa f)) = true
  fnl : ∀ f, f < G.M.fns.length → f < G.T.fns.length
  pos : ∀ f, f < G.T.fns.length → Binds G.K (G.fd f) (G.ps f) []
  kw : ∀ f n ks pm, (f, n, ks, pm) ∈ G.M.kws → f < G.T.fns.length ∧ KwOk G.K (G.fd f) (G.ps f) n ks pm
  ckw : ∀ c n ks pm C f, (c, n, ks, pm) ∈ G.M.ckw → G.T.cls[c]? = some C → C.init = some f → KwOkC G.K (G.fd f) (G.ps f) n ks pm
  na : ∀ c f, (fldsOf G.T c).contains f = true → NoAttr G.K (G.ca c) (G.att f)
  glb : ∀ (g : Nat) (x : Str), G.M.glb[g]? = some x → ∃ d, G.T.glb[g]? = some d ∧ GlbOk G x d
  cmg : ∀ (c : Nat) (x : Str), G.M.cls[c]? = some x → c < G.T.cls.length ∧ G.mg x = some (.ref (G.ca c))
  ini : ∀ (c : Nat) (C : Cl), G.T.cls[c]? = some C → ∃ f, C.init = some f
  mak : ∀ c C f, G.T.cls[c]? = some C → C.init = some f → f < G.T.fns.length ∧ Mk G.K (G.ca c) (G.fa f)
  mth : ∀ c C a f, G.T.cls[c]? = some C → lookN a C.mths = some f → f < G.T.fns.length ∧ Meth G.K (G.ca c) (G.att a) (G.fa f)
/-- a def's promise at level n -/
def spF (G : Pg) (n f : Nat) : Sp := fun vs H Q E => vs.length = (G.ps f).length ∧ ∃ m S ds, RS G m H S ∧ RepL G m H ds vs ∧
  Fin G (fun c d _ H => E c d H) [] (Rep G) m H (run G.T n f ds S) fun _ _ _ H' v => Q v H'
def LvOk (G : Pg) (n : Nat) : Prop := ∀ f, f < G.T.fns.length → FnOk G.P G.w G.K G.mg G.base (L2.CX G.P G.w) n (G.fa f) (G.fd f) (G.ps f) (spF G n f)
/-- what stands around an expression -/
structure Ctx (G : Pg) (n : Nat) (X : Cx) (s : Sx) (W : WX) : Prop where
  prog : X.prog = G.P
  w : X.w = G.w
  K : X.K = G.K
  mg : X.mg = G.mg
  base : X.base = G.base
  N : X.N = s.N
  nd : s.N.Nodup
  sc : X.env.scope = s.sc
  fn : ∀ x, s.sc.names.lookup x = some .cell → (∀ b, s.blk = some b → b.names.lookup x = some .cell) → X.fn x = true
  calm : X.calm = true
  tk : Takes X W
  room : Room n X.A
  lv : LvOk G n
  lv1 : ∀ k, n = k + 1 → LvOk G k
theorem Ctx.units {G : Pg} {n : Nat} {X : Cx} {s : Sx} {W : WX} (c : Ctx G n X s W) : X.A.units + 65 < cLine := by
  have := c.room.un; omega

/-! #### readings -/
def RB (_ : List Addr) (_ : Hp) (a b : Bool) : Prop := a = b
def RO (_ : List Addr) (_ : Hp) (a b : Option Int) : Prop := a = b
section
variable {G : Pg} {W : WX} {σ : L2.St} {m m' : List Addr} {H H' : Hp} {S : Store} {ρ : Fr}
def tX (G : Pg) (W : WX) {α β : Type} (R : List Addr → Hp → α → β → Prop) (ev : Fr → Store → Rs α) (σ : L2.St) (H : Hp) (Q : β → Hp → Prop) : Prop :=
  ∃ m ρ S, RE G m H ρ σ ∧ RS G m H S ∧ Fin G W σ R m H (ev ρ S) fun _ _ _ H' v => Q v H'
theorem tX.go {α β γ δ : Type} {R : List Addr → Hp → α → β → Prop} {R' : List Addr → Hp → γ → δ → Prop} {ev : Fr → Store → Rs α} {k : α → Store → Rs γ} {t : Tag k} {Q : δ → Hp → Prop} {Q' : β → Hp → Prop} (re : RE G m H ρ σ) (rs : RS G m H S)
    (h : Fin G W σ R' m H ((ev ρ S).th k t) fun _ _ _ H' v => Q v H')
    (q : ∀ a S' m' H' v, Ext m H m' H' → RE G m' H' ρ σ → RS G m' H' S' → R m' H' a v → (Fin G W σ R' m' H' (k a S') fun _ _ _ H' v => Q v H') → Q' v H') : tX G W R ev σ H Q' :=
  ⟨m, ρ, S, re, rs, (Fin.th (R := R) h).imp fun a S' m' H' v x rs' r f => q a S' m' H' v x (re.mono x) rs' r f⟩
theorem tX.goe {α β γ δ : Type} {R : List Addr → Hp → α → β → Prop} {R' : List Addr → Hp → γ → δ → Prop} {ev : Fr → Store → Rs α} {k : α → Store → Rs γ} {t : Tag k} {Q : δ → Hp → Prop} {Q' : β → Hp → Prop} (re : RE G m H ρ σ) (rs : RS G m H S)
    (h : Fin G W σ R' m H ((ev ρ S).th k t) fun _ _ _ H' v => Q v H')
    (q : ∀ a S' m' H' v, ev ρ S = .ok a S' → Ext m H m' H' → RE G m' H' ρ σ → RS G m' H' S' → R m' H' a v → (Fin G W σ R' m' H' (k a S') fun _ _ _ H' v => Q v H') → Q' v H') : tX G W R ev σ H Q' :=
  ⟨m, ρ, S, re, rs, by
    cases e : ev ρ S with
    | ok a S' =>
      rw [e] at h
      intro m' H' v x rs' r
      exact q a S' m' H' v e x (re.mono x) rs' r (Fin.ext x h)
    | ex c l S' => rw [e] at h; exact h
    | bad => rw [e] at h; exact h⟩
theorem tX.same {α β : Type} {R : List Addr → Hp → α → β → Prop} {ev : Fr → Store → Rs α} {Q : β → Hp → Prop} (re : RE G m H ρ σ) (rs : RS G m H S)
    (h : Fin G W σ R m H (ev ρ S) fun _ _ _ H' v => Q v H') : tX G W R ev σ H Q := ⟨m, ρ, S, re, rs, h⟩
theorem Fin.at_ok {α β : Type} {R : List Addr → Hp → α → β → Prop} {a : α} {v : β} {K : α → Store → List Addr → Hp → β → Prop} (rs : RS G m H S) (r : R m H a v) (h : Fin G W σ R m H (.ok a S) K) : K a S m H v := h m H v Ext.refl rs r
/-- .. of an option -/
theorem Fin.at_o {α γ δ : Type} {R' : List Addr → Hp → γ → δ → Prop} {o : Option α} {k : α → Store → Rs γ} {t : Tag k} {K : γ → Store → List Addr → Hp → δ → Prop} (h : Fin G W σ R' m H ((ofO o S).th k t) K) :
    ∃ a, o = some a ∧ Fin G W σ R' m H (k a S) K := by
  cases o with
  | none => exact h.elim
  | some a => exact ⟨a, rfl, h⟩
theorem Fin.at_oe {α β : Type} {R : List Addr → Hp → α → β → Prop} {o : Option α} {K : α → Store → List Addr → Hp → β → Prop} (h : Fin G W σ R m H (ofO o S) K) : ∃ a, o = some a ∧ Fin G W σ R m H (.ok a S) K := by
  cases o with
  | none => exact h.elim
  | some a => exact ⟨a, rfl, h⟩
end
abbrev tE (G : Pg) (W : WX) (ev : Fr → Store → Rs D) : TE := tX G W (Rep G) ev
abbrev tL (G : Pg) (W : WX) (ev : Fr → Store → Rs (List D)) : TA := tX G W (RepL G) ev
abbrev tT (G : Pg) (W : WX) (ev : Fr → Store → Rs Bool) : TT := tX G W RB ev
abbrev tI (G : Pg) (W : WX) (ev : Fr → Store → Rs (Option Int)) : TO := tX G W RO ev
section
variable {X : Cx}
theorem pe_imp {e : Expr} {t t' : TE} (h : PE X e t) (i : ∀ σ H Q, t' σ H Q → t σ H Q) : PE X e t' := ⟨fun pins s σ H Q I q => h.run pins s σ H Q I (i σ H Q q)⟩
theorem pt_imp {e : Expr} {t t' : TT} (h : PT X e t) (i : ∀ σ H Q, t' σ H Q → t σ H Q) : PT X e t' := ⟨fun pins s σ H Q I q => h.run pins s σ H Q I (i σ H Q q)⟩
theorem pw_imp {e : Expr} {t t' : TT} (h : PW X e t) (i : ∀ σ H Q, t' σ H Q → t σ H Q) : PW X e t' := ⟨fun wh pins s σ H Q I q => h.run wh pins s σ H Q I (i σ H Q q)⟩
theorem pa_imp {es : List Expr} {t t' : TA} (h : PA X es t) (i : ∀ σ H Q, t' σ H Q → t σ H Q) : PA X es t' := ⟨fun pos pins s σ H Q I q => h.run pos pins s σ H Q I (i σ H Q q)⟩
theorem pk_imp {es : List Keyword} {t t' : TA} (h : PK X es t) (i : ∀ σ H Q, t' σ H Q → t σ H Q) : PK X es t' := ⟨fun pos pins s σ H Q I q => h.run pos pins s σ H Q I (i σ H Q q)⟩
theorem po_imp {e : Option Expr} {t t' : TO} (h : PO X e t) (i : ∀ σ H Q, t' σ H Q → t σ H Q) : PO X e t' := ⟨fun pins s σ H Q I q => h.run pins s σ H Q I (i σ H Q q)⟩
theorem pe_bad {e : Expr} {t : TE} (i : ∀ σ H Q, ¬ t σ H Q) : PE X e t := ⟨fun pins s σ H Q I q => (i σ H Q q).elim⟩
theorem pt_bad {e : Expr} {t : TT} (i : ∀ σ H Q, ¬ t σ H Q) : PT X e t := ⟨fun pins s σ H Q I q => (i σ H Q q).elim⟩
end
/-! #### names -/
section
variable {G : Pg} {n : Nat} {X : Cx} {s : Sx} {W : WX}
theorem Ctx.glo (c : Ctx G n X s W) {x : Str} (h : gloB s x = true) : Gl X x ∧ (x == ("__debug__" : Str)) = false ∧ x ≠ "__name__" ∧ x ≠ "super" ∧ x ≠ "" := by
  unfold gloB at h
  simp only [Bool.and_eq_true, Bool.not_eq_true'] at h
  obtain ⟨⟨⟨⟨h1, h2⟩, h3⟩, h4⟩, h5⟩ := h
  refine ⟨?_, h2, fun e => ?_, fun e => ?_, fun e => ?_⟩
  · show X.env.scope.names.lookup x = _
    rw [c.sc]
    split at h1
    · assumption
    · cases h1
  · rw [e] at h3; revert h3; decide
  · rw [e] at h4; revert h4; decide
  · rw [e] at h5; revert h5; decide
theorem Ctx.see (c : Ctx G n X s W) {i : Nat} {x : Str} (h : seeB s i x = true) : X.N[i]? = some x ∧ Vis X.env.scope x ∧ (x == ("__debug__" : Str)) = false ∧ (x == ("__classdict__" : Str)) = false := by
  unfold seeB at h
  simp only [Bool.and_eq_true, Bool.not_eq_true', decide_eq_true_eq] at h
  obtain ⟨⟨⟨h1, h2⟩, h3⟩, h4⟩ := h
  refine ⟨by rw [c.N]; exact h1, ?_, h2, h3⟩
  unfold Vis
  rw [c.sc]
  split at h4
  · exact .inl (by assumption)
  · exact .inr (.inl (by assumption))
  · exact .inr (.inr (by assumption))
  · cases h4
theorem Ctx.put (c : Ctx G n X s W) {i : Nat} {x : Str} (h : putB s i x = true) : X.N[i]? = some x ∧ L2.Loc X.env.scope x ∧ (X.fn x = true ∨ X.env.scope.names.lookup x = some .local) := by
  unfold putB at h
  simp only [Bool.and_eq_true, decide_eq_true_eq] at h
  obtain ⟨h1, h2⟩ := h
  refine ⟨by rw [c.N]; exact h1, ?_⟩
  unfold L2.Loc
  rw [c.sc]
  split at h2
  · rename_i e
    exact ⟨.inl e, .inr e⟩
  · rename_i e
    refine ⟨.inr e, .inl (c.fn x e fun b hb => ?_)⟩
    rw [hb] at h2
    simpa using h2
  · cases h2
theorem Ctx.nN (c : Ctx G n X s W) : X.N.Nodup := by rw [c.N]; exact c.nd
end
/-! #### no star, no super() -/
def noStar : Expr → Bool
  | .Starred _ _ => false
  | _ => true
def noSup : Expr → Bool
  | .Call (.Name x _) [] [] _ => !(x == ("super" : Str))
  | _ => true
def noSet : Expr → Bool
  | .Set _ _ _ => false
  | _ => true
theorem star_of {e : Expr} {es : List Expr} {env : Env} (h : noStar e = true) : starEach (e :: es) env = (false, eval e env) :: starEach es env := by
  cases e <;> first | rfl | (simp [noStar] at h)
theorem any_star : ∀ {es : List Expr} {env : Env} {pos : Pos}, es.all noStar = true → (backTo pos (starEach es env)).any (·.1) = false
  | [], _, _, _ => rfl
  | e :: es, env, pos, h => by
    simp only [List.all_cons, Bool.and_eq_true] at h
    rw [star_of h.1]
    have := any_star (env := env) (pos := pos) h.2
    show (false || (backTo pos (starEach es env)).any (·.1)) = false
    rw [this]; rfl
theorem marks_of {op : CmpOp} {e : Expr} (h : noSet e = true) : behindInMarks op e = false := by
  cases e <;> first | rfl | (simp [noSet] at h)
theorem ix_of {b : Expr} (h : notSlice b = true) : PlainIx b := by
  cases b <;> first | (intro o i; rfl) | (simp [notSlice] at h)
theorem base_of {e : Expr} {f : Str} {env : Env} {wh : Sem Value} (h : noSup e = true) : attributeBase e f env wh = wh := by
  cases e with
  | Call g args kws p =>
    cases g with
    | Name x q =>
      cases args with
      | nil =>
        cases kws with
        | nil =>
          simp only [noSup, Bool.not_eq_true'] at h
          unfold attributeBase
          simp only [bne, h, Bool.not_false, Bool.true_or, if_true, bind_pure]
        | cons _ _ => rfl
      | cons _ _ => rfl
    | _ => rfl
  | _ => rfl
/-! #### what a check says about the form -/
theorem chk_form {M : Nm} (ex : Ex) (s : Sx) (e : Expr) (h : chkE M ex s e = true) : noStar e = true ∧ noSet e = true ∧ noSup e = true := by
  cases ex <;> (unfold chkE at h; split at h) <;> first
    | exact ⟨rfl, rfl, rfl⟩
    | (cases h; done)
    | (refine ⟨rfl, rfl, ?_⟩
       unfold noSup
       split
       · rename_i heq
         injection heq with h1 h2 h3 h4
         injection h1 with h5 h6
         rw [← h5]
         simp only [gloB, Bool.and_eq_true] at h
         exact h.1.1.2
       · rfl)
theorem chkW_set {M : Nm} (it : Iter) (s : Sx) (t e : Expr) (h : chkW M it s t e = true) : noSet e = true := by
  cases it <;> simp only [chkW] at h
  · exact (chk_form _ _ _ h).2.1
  all_goals
    split at h
    · rfl
    · cases h
theorem chkL_star {M : Nm} : ∀ (es : Exs) (s : Sx) (l : List Expr), chkL M es s l = true → l.all noStar = true
  | .nil, s, l, h => by
    simp only [chkL, List.isEmpty_iff] at h
    rw [h]; rfl
  | .cons e es, s, l, h => by
    simp only [chkL] at h
    split at h
    · simp only [Bool.and_eq_true] at h
      simp only [List.all_cons, Bool.and_eq_true]
      exact ⟨(chk_form _ _ _ h.1).1, chkL_star es s _ h.2⟩
    · cases h
end Ev
end
section
set_option maxRecDepth 100000
set_option maxHeartbeats 4000000
/-! Ev, part 9: the rules of expressions, one by one. -/
namespace Ev
open PySem PySem.Spec PyProof.Rows L2
theorem app_nil {α : Type} (l : List α) : l ++ [] = l := List.append_nil l
/-! #### lists picked -/
theorem RepL.pick {G : Pg} {m : List Addr} {H : Hp} {ds : List D} {vs : List V} (h : RepL G m H ds vs) : ∀ (pm : List Nat) {ws : List D}, pick ds pm = some ws → ∃ xs, pick vs pm = some xs ∧ RepL G m H ws xs
  | [], _, e => by cases e; exact ⟨[], rfl, RepL.nil⟩
  | i :: r, ws, e => by
    simp only [Ev.pick] at e
    split at e
    · rename_i d l e1 e2
      cases e
      obtain ⟨v, hv, rv⟩ := h.get e1
      obtain ⟨xs, hx, rx⟩ := h.pick r e2
      exact ⟨v :: xs, by simp only [Ev.pick, hv, hx], RepL.cons rv rx⟩
    · cases e
theorem vals_pick {vs : List V} {us : List Value} (h : Vals vs us) : ∀ (pm : List Nat) {xs : List V}, pick vs pm = some xs → ∃ zs, pick us pm = some zs ∧ Vals xs zs
  | [], _, e => by cases e; exact ⟨[], rfl, .nil⟩
  | i :: r, ws, e => by
    simp only [Ev.pick] at e
    split at e
    · rename_i d l e1 e2
      cases e
      obtain ⟨u, hu, ru⟩ := h.get e1
      obtain ⟨zs, hz, rz⟩ := vals_pick h r e2
      exact ⟨u :: zs, by simp only [Ev.pick, hu, hz], .cons ru rz⟩
    · cases e
/-! #### keywords -/
theorem kw_all : ∀ {qs : List Keyword} {env : Env} {pos : Pos}, kwAll qs = true → (backToKw pos (keywordEach qs env)).all (·.1.isSome) = true
  | [], _, _, _ => rfl
  | ⟨a, e, p⟩ :: qs, env, pos, h => by
    simp only [kwAll, List.all_cons, Bool.and_eq_true] at h
    have := kw_all (env := env) (pos := pos) (qs := qs) h.2
    show (a.isSome && (backToKw pos (keywordEach qs env)).all (·.1.isSome)) = true
    rw [this, h.1]; rfl
theorem kw_any {qs : List Keyword} {env : Env} {pos : Pos} : ∀ {l : List (Option Str × Sem Value)}, l.all (·.1.isSome) = true → l.any (·.1.isNone) = false
  | [], _ => rfl
  | a :: l, h => by
    simp only [List.all_cons, Bool.and_eq_true] at h
    simp only [List.any_cons, kw_any (qs := qs) (env := env) (pos := pos) h.2, Bool.or_false]
    obtain ⟨h1, _⟩ := h
    cases ha : a.1 with
    | none => rw [ha] at h1; cases h1
    | some _ => rfl
theorem kw_names : ∀ {qs : List Keyword} {env : Env} {pos : Pos}, kwAll qs = true → (backToKw pos (keywordEach qs env)).filterMap (·.1) = kwN qs
  | [], _, _, _ => rfl
  | ⟨a, e, p⟩ :: qs, env, pos, h => by
    simp only [kwAll, List.all_cons, Bool.and_eq_true] at h
    have ih := kw_names (env := env) (pos := pos) (qs := qs) h.2
    cases a with
    | none => exact absurd h.1 (by simp)
    | some x =>
      show x :: (backToKw pos (keywordEach qs env)).filterMap (·.1) = _
      rw [ih]; rfl
theorem kwN_length : ∀ (qs : List Keyword), (kwN qs).length = (kwE qs).length
  | [] => rfl
  | _ :: qs => congrArg Nat.succ (kwN_length qs)
section
variable {G : Pg} {n : Nat} {X : Cx} {s : Sx} {W : WX} {C : Cs}
/-- a global that is called, with values and keywords -/
theorem pe_anyc {x : Str} {u : Value} {l : List Expr} {qs : List Keyword} {p pos : Pos} {t tk : TA} {r : List V → List V → L2.St → Hp → VK → Prop} (hg : Gl X x) (hm : X.mg x = some u) (hk : PySem.W.keepIn X.K u = true) (hdb : (x == ("__debug__" : Str)) = false) (hst : l.all noStar = true) (hq : kwAll qs = true)
    (ha : PA X l t) (h0 : l = [] → ∀ σ H Q, t σ H Q → Q [] H) (hkw : PK X qs tk)
    (run : ∀ (pins : List (Addr × Obj)) (st : Shared) (σ : L2.St) (H : Hp) (vs zs : List V) (us ws : List Value) (Q : VK), L2.Inv X pins σ H st → Vals vs us → Vals zs ws → r vs zs σ H Q → wpAny (model X.prog X.w) X.A (call u us ((kwN qs).zip ws)) (EP X pins σ Q) X.xe st) :
    PE X (.Call (.Name x p) l qs pos) (fun σ H Q => t σ H fun vs H1 => tk σ H1 fun zs H2 => r vs zs σ H2 Q) := by
  refine ⟨fun pins st σ H Q I h => ?_⟩
  refine wpAny_Call_Name_kw (ld_glob I hg hm ?_ hdb)
  have hall := kw_all (env := X.env) (pos := pos) hq
  have hnm := kw_names (env := X.env) (pos := pos) hq
  cases l with
  | nil =>
    have h1 := h0 rfl σ H _ h
    refine PySem.W.callWith_KW0 (h₀ := X.base) I.ok.mod.kin hk hall ?_ (by rw [kw_any (qs := qs) (env := X.env) (pos := pos) hall]; rfl)
    refine thn (hkw.run pos pins st σ H _ I h1) fun ws s2 ⟨zs, H2, I2, rz, q2⟩ => ⟨I2.kIn, ?_⟩
    rw [hnm]
    exact run pins s2 σ H2 [] zs [] ws Q I2 .nil rz q2
  | cons e es =>
    have hs2 := hst
    simp only [List.all_cons, Bool.and_eq_true] at hs2
    refine PySem.W.callWith_KW (h₀ := X.base) I.ok.mod.kin hk hall (thn (ha.run pos pins st σ H _ I h) fun us s1 ⟨vs, H1, I1, rv, q1⟩ => ?_) (by rw [any_star hst, kw_any (qs := qs) (env := X.env) (pos := pos) hall]; rfl) (star_of hs2.1)
    refine thn (hkw.run pos pins s1 σ H1 _ I1 q1) fun ws s2 ⟨zs, H2, I2, rz, q2⟩ => ⟨I2.kIn, ?_⟩
    rw [hnm]
    exact run pins s2 σ H2 vs zs us ws Q I2 rv rz q2
theorem fin_sp {σ : L2.St} {m : List Addr} {H : Hp} {r : Rs D} {Q : VK} (h : Fin G W σ (Rep G) m H r fun _ _ _ H' v => Q v H') : Fin G (fun c d _ H => WE W σ c d H) [] (Rep G) m H r fun _ _ _ H' v => Q v H' := by
  cases r <;> exact h
theorem run_len {T : Tb} {f : Nat} {ds : List D} {S : Store} (h : run T n f ds S ≠ .bad) : ∃ F, T.fns[f]? = some F ∧ ds.length = F.np := by
  cases n with
  | zero => exact absurd (run_zero T f ds S) h
  | succ k =>
    rw [run_succ] at h
    unfold runB at h
    rw [csOf_T] at h
    split at h
    · rename_i F e
      split at h
      · rename_i hl
        exact ⟨F, e, hl⟩
      · exact absurd rfl h
    · exact absurd rfl h
/-- the parameters are as many as the table says -/
def NpOk (G : Pg) : Prop := ∀ f F, G.T.fns[f]? = some F → (G.ps f).length = F.np
theorem spF_of (np : NpOk G) {f : Nat} {σ : L2.St} {m : List Addr} {H : Hp} {S : Store} {ds : List D} {vs : List V} {Q : VK} (rs : RS G m H S) (r : RepL G m H ds vs) (h : Fin G W σ (Rep G) m H (run G.T n f ds S) fun _ _ _ H' v => Q v H') : spF G n f vs H Q (WE W σ) := by
  have hb : run G.T n f ds S ≠ .bad := fun e => by rw [e] at h; exact h.elim
  obtain ⟨F, e, hl⟩ := run_len hb
  exact ⟨by rw [np f F e, ← hl, r.length], m, S, ds, rs, r, fin_sp h⟩
theorem Ctx.pass (c : Ctx G n X s W) (σ : L2.St) : PassesAt (L2.CX G.P G.w) X σ (WE W σ) := by
  have := passAt (X := X) c.tk σ
  rw [c.prog, c.w] at this
  exact this
/-- a def is run -/
theorem run_ev (np : NpOk G) (c : Ctx G n X s W) {k f : Nat} {pins : List (Addr × Obj)} {σ : L2.St} {H : Hp} {st : Shared} {Q : VK} {us zs : List Value} {kw : List (Str × Value)} {vs : List V} {m : List Addr} {S : Store} {ds : List D} (hk : LvOk G k) (hr : Room k X.A) (hf : f < G.T.fns.length)
    (b : BindsTo st (G.fd f) ⟨us, kw⟩ ((G.ps f).zip zs)) (I : L2.Inv X pins σ H st) (rv : Vals vs zs) (rs : RS G m H S) (r : RepL G m H ds vs) (h : Fin G W σ (Rep G) m H (run G.T k f ds S) fun _ _ _ H' v => Q v H') :
    wpAny (model X.prog X.w) X.A (call (.ref (G.fa f)) us kw) (EP X pins σ Q) X.xe st := by
  have F := hk f hf
  rw [← c.prog, ← c.w, ← c.K, ← c.mg, ← c.base] at F
  have px := c.pass σ
  rw [← c.prog, ← c.w] at px
  refine wpAny_call (codeAny_mono (F.run X.A X.stack st H ⟨us, kw⟩ zs vs Q (WE W σ) hr I.env0 b rv (spF_of np rs r h)) fun q s' hq => ?_)
  cases q with
  | error e => exact px pins H st e s' I hq
  | ok fl =>
    cases fl with
    | ret u => exact I.after hq
    | next => exact False.elim hq
    | brk => exact False.elim hq
    | cont => exact False.elim hq
/-! #### the forms -/
variable {e x y z : Expr} {p pos : Pos} {a b : Ex}
theorem r_var (c : Ctx G n X s W) {i : Nat} {nm : Str} (h : seeB s i nm = true) : PE X (.Name nm p) (tE G W (evE C (.var i))) := by
  obtain ⟨h1, h2, h3, h4⟩ := c.see h
  refine pe_imp (pe_var h1 h2 h3 h4) fun σ H Q ⟨m, ρ, S, re, rs, q⟩ => ?_
  simp only [evE] at q
  split at q
  · rename_i d e
    obtain ⟨v, hv, r⟩ := re.at_ i d e
    exact ⟨v, hv, q.at_ok rs r⟩
  · exact q.elim
theorem r_const {v : V} {d : D} {ev : Fr → Store → Rs D} (h : PE X e (tC v)) (he : ∀ ρ S, ev ρ S = .ok d S) (r : ∀ m H, Rep G m H d v) : PE X e (tE G W ev) :=
  pe_imp h fun σ H Q ⟨m, ρ, S, re, rs, q⟩ => by
    rw [he] at q
    exact q.at_ok rs (r m H)
theorem r_glb (hd : Hd G) (c : Ctx G n X s W) (hT : C.T = G.T) {g : Nat} {nm : Str} (h : gloB s nm = true) (hn : G.M.glb[g]? = some nm) : PE X (.Name nm p) (tE G W (evE C (.glb g))) := by
  obtain ⟨h1, h2, h3, _⟩ := c.glo h
  obtain ⟨d, hdd, u, v, hm, r, rp⟩ := hd.glb g nm hn
  refine r_const (pe_glob h1 (by rw [c.mg]; exact hm) r h2) (fun ρ S => ?_) rp
  simp only [evE, hT, hdd, ofO]
theorem r_bin (c : Ctx G n X s W) {op : Op} {k : Bool} (ha : PE X x (tE G W (evE C a))) (hb : PE X y (tE G W (evE C b))) : PE X (.BinOp x op.of y pos) (tE G W (evE C (.bin op k a b))) := by
  refine pe_imp (pe_op (op_bin (G := G) c.K op k) ha hb) fun σ H Q ⟨m, ρ, S, re, rs, q⟩ => ?_
  simp only [evE] at q
  refine tX.go re rs q fun d S1 m1 H1 v1 x1 re1 rs1 r1 q1 => ?_
  refine tX.go re1 rs1 q1 fun d2 S2 m2 H2 v2 x2 re2 rs2 r2 q2 => ?_
  exact ⟨m2, S2, d, d2, rs2, Rep.mono x2 _ _ r1, r2, q2.toV (noEx_bin _ _ _ _ _)⟩
theorem r_neg (ha : PE X x (tE G W (evE C a))) : PE X (.UnaryOp .USub x pos) (tE G W (evE C (.neg a))) := by
  refine pe_imp (pe_un un_neg ha) fun σ H Q ⟨m, ρ, S, re, rs, q⟩ => ?_
  simp only [evE] at q
  refine tX.go re rs q fun d S1 m1 H1 v1 x1 re1 rs1 r1 q1 => ?_
  split at q1
  · exact ⟨_, r1.int_inv, q1.at_ok rs1 rep_int⟩
  · exact q1.elim
theorem noSet_of {M : Nm} {b : Ex} {y : Expr} (h : chkE M b s y = true) : noSet y = true := (chk_form _ _ _ h).2.1
theorem t_cmp (op : Cp) {K : Bool → Store → Rs D} {t : Tag K} {σ : L2.St} {H : Hp} {Q : VK} (hK : ∀ k S, K k S = .ok (.bl k) S)
    (h : tE G W (fun ρ S => (evE C a ρ S).th fun d S1 => (evE C b ρ S1).th fun e S2 => (ofO (cmpD op d e S2) S2).th K t) σ H Q) : tOp (rCmp G op) (tE G W (evE C a)) (tE G W (evE C b)) σ H Q := by
  obtain ⟨m, ρ, S, re, rs, q⟩ := h
  refine tX.go re rs q fun d S1 m1 H1 v1 x1 re1 rs1 r1 q1 => ?_
  refine tX.go re1 rs1 q1 fun d2 S2 m2 H2 v2 x2 re2 rs2 r2 q2 => ?_
  obtain ⟨k, ek, q3⟩ := q2.at_o
  rw [hK] at q3
  exact ⟨m2, S2, d, d2, k, rs2, Rep.mono x2 _ _ r1, r2, ek, q3.at_ok rs2 rep_bl⟩
theorem r_cmp (c : Ctx G n X s W) (op : Cp) (ha : PE X x (tE G W (evE C a))) (hb : PE X y (tE G W (evE C b))) (hy : noSet y = true) : PE X (.Compare x [op.of] [y] pos) (tE G W (evE C (.cmp op a b))) := by
  refine pe_imp (pe_cmpR (op_cmp (G := G) c.K c.units op) ha hb (marks_of hy)) fun σ H Q ⟨m, ρ, S, re, rs, q⟩ => ?_
  simp only [evE] at q
  exact t_cmp op (fun _ _ => rfl) ⟨m, ρ, S, re, rs, q⟩
theorem r_cmpT (c : Ctx G n X s W) (op : Cp) (ha : PE X x (tE G W (evE C a))) (hb : PE X y (tE G W (evE C b))) (hy : noSet y = true) : PT X (.Compare x [op.of] [y] pos) (tT G W (evT C (.cmp op a b))) := by
  refine pt_imp (pt_cmpR (op_cmp (G := G) c.K c.units op) ha hb (marks_of hy)) fun σ H Q ⟨m, ρ, S, re, rs, q⟩ => ?_
  simp only [evT] at q
  refine tX.go re rs q fun d S1 m1 H1 v1 x1 re1 rs1 r1 q1 => ?_
  refine tX.go re1 rs1 q1 fun d2 S2 m2 H2 v2 x2 re2 rs2 r2 q2 => ?_
  obtain ⟨k, ek, q3⟩ := q2.at_oe
  exact ⟨m2, S2, d, d2, k, rs2, Rep.mono x2 _ _ r1, r2, ek, k, rfl, q3.at_ok rs2 rfl⟩
theorem r_chn (c : Ctx G n X s W) (o1 o2 : Cp) {b' : Ex} (ha : PE X x (tE G W (evE C a))) (hb : PE X y (tE G W (evE C b))) (hc : PE X z (tE G W (evE C b'))) (hy : noSet z = true) : PE X (.Compare x [o1.of, o2.of] [y, z] pos) (tE G W (evE C (.chn o1 o2 a b b'))) := by
  refine pe_imp (pe_chain (op_cmp (G := G) c.K c.units o1) (op_cmp (G := G) c.K c.units o2) ha hb hc (marks_of hy)) fun σ H Q ⟨m, ρ, S, re, rs, q⟩ => ?_
  simp only [evE] at q
  refine tX.go re rs q fun d S1 m1 H1 v1 x1 re1 rs1 r1 q1 => ?_
  refine tX.go re1 rs1 q1 fun d2 S2 m2 H2 v2 x2 re2 rs2 r2 q2 => ?_
  obtain ⟨k, ek, q3⟩ := q2.at_o
  refine ⟨m2, S2, d, d2, k, rs2, Rep.mono x2 _ _ r1, r2, ek, k, rfl, ?_⟩
  cases k with
  | false => exact q3.at_ok rs2 rep_bl
  | true =>
    rw [if_pos rfl] at q3
    refine tX.go re2 rs2 q3 fun d3 S3 m3 H3 v3 x3 re3 rs3 r3 q4 => ?_
    obtain ⟨k2, ek2, q5⟩ := q4.at_o
    exact ⟨m3, S3, d2, d3, k2, rs3, Rep.mono x3 _ _ r2, r3, ek2, q5.at_ok rs3 rep_bl⟩
theorem r_chnT (c : Ctx G n X s W) (o1 o2 : Cp) {b' : Ex} (ha : PE X x (tE G W (evE C a))) (hb : PE X y (tE G W (evE C b))) (hc : PE X z (tE G W (evE C b'))) (hy : noSet z = true) : PT X (.Compare x [o1.of, o2.of] [y, z] pos) (tT G W (evT C (.chn o1 o2 a b b'))) := by
  refine pt_imp (pt_chain (op_cmp (G := G) c.K c.units o1) (op_cmp (G := G) c.K c.units o2) ha hb hc (marks_of hy)) fun σ H Q ⟨m, ρ, S, re, rs, q⟩ => ?_
  simp only [evT] at q
  refine tX.go re rs q fun d S1 m1 H1 v1 x1 re1 rs1 r1 q1 => ?_
  refine tX.go re1 rs1 q1 fun d2 S2 m2 H2 v2 x2 re2 rs2 r2 q2 => ?_
  obtain ⟨k, ek, q3⟩ := q2.at_o
  refine ⟨m2, S2, d, d2, k, rs2, Rep.mono x2 _ _ r1, r2, ek, k, rfl, ?_⟩
  cases k with
  | false => exact ⟨false, rfl, q3.at_ok rs2 rfl⟩
  | true =>
    rw [if_pos rfl] at q3
    refine tX.go re2 rs2 q3 fun d3 S3 m3 H3 v3 x3 re3 rs3 r3 q4 => ?_
    obtain ⟨k2, ek2, q5⟩ := q4.at_oe
    exact ⟨m3, S3, d2, d3, k2, rs3, Rep.mono x3 _ _ r2, r3, ek2, k2, rfl, q5.at_ok rs3 rfl⟩
theorem non_is {m : List Addr} {H : Hp} {d : D} {v : V} (r : Rep G m H d v) (k : Bool) : isNo k d = (if k then !decide (v = .non) else decide (v = .non)) := by
  cases d with
  | non => have e := r.non_inv; subst e; cases k <;> rfl
  | bl b => have e := r.bl_inv; subst e; cases k <;> rfl
  | int b => have e := r.int_inv; subst e; cases k <;> rfl
  | str b => have e := r.str_inv; subst e; cases k <;> rfl
  | tup l => obtain ⟨p, vs, e, _⟩ := r.tup_inv; subst e; cases k <;> rfl
  | lst l => obtain ⟨p, vs, e, _⟩ := r.lst_inv; subst e; cases k <;> rfl
  | ref i => obtain ⟨p, e, _⟩ := r.ref_inv; subst e; cases k <;> rfl
  | obj i l => obtain ⟨p, vs, e, _⟩ := r.obj_inv; subst e; cases k <;> rfl
theorem r_isN (k : Bool) {j : Nat} {p2 : Pos} {kd : Option Str} (ha : PE X x (tE G W (evE C a))) {op : CmpOp} (ho : op = if k then .IsNot else .Is) {e2 : Expr} (he2 : PE X e2 (tC .non)) (hy : noSet e2 = true) : PE X (.Compare x [op] [e2] pos) (tE G W (evE C (.isN k a))) := by
  subst ho
  cases k with
  | false =>
    refine pe_imp (pe_cmpR op_isN1 ha he2 (marks_of hy)) fun σ H Q ⟨m, ρ, S, re, rs, q⟩ => ?_
    simp only [evE] at q
    refine tX.go re rs q fun d S1 m1 H1 v1 x1 re1 rs1 r1 q1 => ?_
    rw [non_is r1] at q1
    exact ⟨rfl, q1.at_ok rs1 rep_bl⟩
  | true =>
    refine pe_imp (pe_cmpR op_notN1 ha he2 (marks_of hy)) fun σ H Q ⟨m, ρ, S, re, rs, q⟩ => ?_
    simp only [evE] at q
    refine tX.go re rs q fun d S1 m1 H1 v1 x1 re1 rs1 r1 q1 => ?_
    rw [non_is r1] at q1
    exact ⟨rfl, q1.at_ok rs1 rep_bl⟩
theorem r_isNT (k : Bool) (ha : PE X x (tE G W (evE C a))) {op : CmpOp} (ho : op = if k then .IsNot else .Is) {e2 : Expr} (he2 : PE X e2 (tC .non)) (hy : noSet e2 = true) : PT X (.Compare x [op] [e2] pos) (tT G W (evT C (.isN k a))) := by
  subst ho
  cases k with
  | false =>
    refine pt_imp (pt_cmpR op_isN1 ha he2 (marks_of hy)) fun σ H Q ⟨m, ρ, S, re, rs, q⟩ => ?_
    simp only [evT] at q
    refine tX.go re rs q fun d S1 m1 H1 v1 x1 re1 rs1 r1 q1 => ?_
    rw [non_is r1] at q1
    exact ⟨rfl, _, rfl, q1.at_ok rs1 rfl⟩
  | true =>
    refine pt_imp (pt_cmpR op_notN1 ha he2 (marks_of hy)) fun σ H Q ⟨m, ρ, S, re, rs, q⟩ => ?_
    simp only [evT] at q
    refine tX.go re rs q fun d S1 m1 H1 v1 x1 re1 rs1 r1 q1 => ?_
    rw [non_is r1] at q1
    exact ⟨rfl, _, rfl, q1.at_ok rs1 rfl⟩
end
end Ev
end
section
set_option maxRecDepth 100000
set_option maxHeartbeats 4000000
/-! Ev, part 10: more rules of expressions. -/
namespace Ev
open PySem PySem.Spec PyProof.Rows L2
/-! #### cells that nobody sees are forgotten -/
section
variable {G : Pg} {m m1 m3 : List Addr} {H H1 H3 : Hp} {S S' : Store}
mutual
theorem below_of : ∀ (d : D) (v : V), Rep G m H d v → below m.length d = true
  | .non, _, _ => rfl
  | .bl _, _, _ => rfl
  | .int _, _, _ => rfl
  | .str _, _, _ => rfl
  | .tup l, _, h => by
    obtain ⟨p, vs, _, _, r⟩ := h.tup_inv
    simp only [below]
    exact belowL_of l vs r
  | .lst l, _, h => by
    obtain ⟨p, vs, _, _, r⟩ := h.lst_inv
    simp only [below]
    exact belowL_of l vs r
  | .ref n, _, h => by
    obtain ⟨p, _, e⟩ := h.ref_inv
    simp only [below, decide_eq_true_eq]
    exact (List.getElem?_eq_some_iff.mp e).1
  | .obj c l, _, h => by
    obtain ⟨p, vs, _, _, r⟩ := h.obj_inv
    simp only [below]
    exact belowL_of l vs r
theorem belowL_of : ∀ (l : List D) (vs : List V), RepL G m H l vs → belowL m.length l = true
  | [], _, _ => rfl
  | d :: l, _, h => by
    simp only [RepL] at h
    obtain ⟨v, r, _, h1, h2⟩ := h
    simp only [belowL, Bool.and_eq_true]
    exact ⟨below_of d v h1, belowL_of l r h2⟩
end
theorem get_pre {n : Nat} {p : Addr} (a : m1 <+: m3) (hn : n < m1.length) (h : m3[n]? = some p) : m1[n]? = some p := by
  obtain ⟨r, rfl⟩ := a
  rw [List.getElem?_append_left hn] at h
  exact h
theorem not_pre {p : Addr} (a : m1 <+: m3) (h : p ∉ m3) : p ∉ m1 := fun q => h (a.subset q)
mutual
theorem Rep.less (a : m1 <+: m3) : ∀ (d : D) (v : V), below m1.length d = true → Rep G m3 H d v → Rep G m1 H d v
  | .non, _, _, h => by rw [h.non_inv]; exact rep_non
  | .bl _, _, _, h => by rw [h.bl_inv]; exact rep_bl
  | .int _, _, _, h => by rw [h.int_inv]; exact rep_int
  | .str _, _, _, h => by rw [h.str_inv]; exact rep_str
  | .tup l, _, b, h => by
    simp only [below] at b
    obtain ⟨p, vs, rfl, f, r⟩ := h.tup_inv
    exact rep_tup (f.imp (fun q => ⟨not_pre a q.1, q.2⟩) id) (RepL.less a l vs b r)
  | .lst l, _, b, h => by
    simp only [below] at b
    obtain ⟨p, vs, rfl, f, r⟩ := h.lst_inv
    exact rep_lst ⟨not_pre a f.1, f.2⟩ (RepL.less a l vs b r)
  | .ref n, _, b, h => by
    simp only [below, decide_eq_true_eq] at b
    obtain ⟨p, rfl, e⟩ := h.ref_inv
    exact rep_ref (get_pre a b e)
  | .obj c l, _, b, h => by
    simp only [below] at b
    obtain ⟨p, vs, rfl, f, r⟩ := h.obj_inv
    exact rep_obj ⟨not_pre a f.1, f.2⟩ (RepL.less a l vs b r)
theorem RepL.less (a : m1 <+: m3) : ∀ (l : List D) (vs : List V), belowL m1.length l = true → RepL G m3 H l vs → RepL G m1 H l vs
  | [], _, _, h => by simp only [RepL] at h; subst h; exact RepL.nil
  | d :: l, _, b, h => by
    simp only [belowL, Bool.and_eq_true] at b
    simp only [RepL] at h
    obtain ⟨v, r, rfl, h1, h2⟩ := h
    exact RepL.cons (Rep.less a d v b.1 h1) (RepL.less a l r b.2 h2)
end
theorem RepC.less {c : Cell} {p : Addr} (a : m1 <+: m3) (b : belowC m1.length c = true) (h : RepC G m3 H c p) : RepC G m1 H c p := by
  cases c with
  | lst l =>
    obtain ⟨vs, h1, r⟩ := h
    exact ⟨vs, h1, RepL.less a _ _ b r⟩
  | ins c fs =>
    obtain ⟨dx, vs, h1, r⟩ := h
    exact ⟨dx, vs, h1, RepL.less a _ _ b r⟩
theorem belowC_of {c : Cell} {p : Addr} (h : RepC G m H c p) : belowC m.length c = true := by
  cases c with
  | lst l =>
    obtain ⟨vs, _, r⟩ := h
    exact belowL_of _ _ r
  | ins c fs =>
    obtain ⟨dx, vs, _, r⟩ := h
    exact belowL_of _ _ r
theorem RS.drop (rs : RS G m3 H3 S') (x : Ext m1 H1 m3 H3) (rs1 : RS G m1 H1 S) (e : cutOk S S' = true) : RS G m1 H3 (S'.take S.length) ∧ Ext m1 H1 m1 H3 := by
  have hle : S.length ≤ S'.length := by rw [← rs.len, ← rs1.len]; exact x.pre.length_le
  refine ⟨⟨by rw [List.length_take, Nat.min_eq_left hle]; exact rs1.len, rs1.nd, fun n c en => ?_⟩, ⟨List.prefix_refl _, fun a o ha na => ⟨(x.keep a o ha na).1, na⟩⟩⟩
  rw [List.getElem?_take] at en
  split at en
  · rename_i hn
    have hn1 : n < m1.length := by rw [rs1.len]; exact hn
    obtain ⟨p, hp, q⟩ := rs.cel n c en
    refine ⟨p, get_pre x.pre hn1 hp, RepC.less x.pre ?_ q⟩
    unfold cutOk at e
    rw [Bool.or_eq_true] at e
    have en2 : (S'.take S.length)[n]? = some c := by rw [List.getElem?_take, if_pos hn]; exact en
    rcases e with e | e
    · simp only [decide_eq_true_eq] at e
      rw [e] at en2
      obtain ⟨p1, hp1, q1⟩ := rs1.cel n c en2
      exact belowC_of q1
    · rw [rs1.len]
      exact List.all_eq_true.mp e c (List.mem_of_getElem? en2)
  · cases en
end
section
variable {G : Pg} {n : Nat} {X : Cx} {s : Sx} {W : WX} {C : Cs} {e x y z : Expr} {p pos : Pos} {a b : Ex} {es : List Expr} {l : Exs}
/-! #### lists of expressions -/
theorem r_nil : PA X [] (tL G W (evL C .nil)) := pa_imp pa_nil fun σ H Q ⟨m, ρ, S, re, rs, q⟩ => by
  simp only [evL] at q
  exact q.at_ok rs RepL.nil
theorem r_cons (ha : PE X x (tE G W (evE C a))) (hs : noStar x = true) (hl : PA X es (tL G W (evL C l))) : PA X (x :: es) (tL G W (evL C (.cons a l))) :=
  pa_imp (pa_cons ha hl (star_of hs)) fun σ H Q ⟨m, ρ, S, re, rs, q⟩ => by
    simp only [evL] at q
    refine tX.go re rs q fun d S1 m1 H1 v1 x1 re1 rs1 r1 q1 => ?_
    refine tX.go re1 rs1 q1 fun d2 S2 m2 H2 v2 x2 re2 rs2 r2 q2 => ?_
    exact q2.at_ok rs2 (RepL.cons (Rep.mono x2 _ _ r1) r2)
theorem r_knil : PK X [] (tL G W (evL C .nil)) := pk_imp pk_nil fun σ H Q ⟨m, ρ, S, re, rs, q⟩ => by
  simp only [evL] at q
  exact q.at_ok rs RepL.nil
theorem r_kcons {nm : Option Str} {kp : Pos} {ks : List Keyword} (ha : PE X x (tE G W (evE C a))) (hl : PK X ks (tL G W (evL C l))) : PK X (⟨nm, x, kp⟩ :: ks) (tL G W (evL C (.cons a l))) :=
  pk_imp (pk_cons ha hl) fun σ H Q ⟨m, ρ, S, re, rs, q⟩ => by
    simp only [evL] at q
    refine tX.go re rs q fun d S1 m1 H1 v1 x1 re1 rs1 r1 q1 => ?_
    refine tX.go re1 rs1 q1 fun d2 S2 m2 H2 v2 x2 re2 rs2 r2 q2 => ?_
    exact q2.at_ok rs2 (RepL.cons (Rep.mono x2 _ _ r1) r2)
theorem nil_of {M : Nm} {σ : L2.St} {H : Hp} {Q : List V → Hp → Prop} (hl : chkL M l s es = true) (e : es = []) (h : tL G W (evL C l) σ H Q) : Q [] H := by
  subst e
  cases l with
  | nil =>
    obtain ⟨m, ρ, S, re, rs, q⟩ := h
    simp only [evL] at q
    exact q.at_ok rs RepL.nil
  | cons _ _ => simp [chkL] at hl
/-! #### and, or, not, if -/
theorem r_and {rest : List Expr} (c : Ctx G n X s W) (ha : PE X x (tE G W (evE C a))) (hb : PE X (.BoolOp .And (y :: rest) pos) (tE G W (evE C b))) : PE X (.BoolOp .And (x :: y :: rest) pos) (tE G W (evE C (.and a b))) :=
  pe_imp (pe_andT ha hb) fun σ H Q ⟨m, ρ, S, re, rs, q⟩ => by
    simp only [evE] at q
    refine tX.go re rs q fun d S1 m1 H1 v1 x1 re1 rs1 r1 q1 => ?_
    obtain ⟨k, ek, q2⟩ := q1.at_o
    refine ⟨k, by rw [c.K]; exact tru_of rs1 r1 ek, ?_⟩
    cases k with
    | true => exact ⟨m1, ρ, S1, re1, rs1, q2⟩
    | false => exact q2.at_ok rs1 r1
theorem r_or {rest : List Expr} (c : Ctx G n X s W) (ha : PE X x (tE G W (evE C a))) (hb : PE X (.BoolOp .Or (y :: rest) pos) (tE G W (evE C b))) : PE X (.BoolOp .Or (x :: y :: rest) pos) (tE G W (evE C (.or a b))) :=
  pe_imp (pe_orT ha hb) fun σ H Q ⟨m, ρ, S, re, rs, q⟩ => by
    simp only [evE] at q
    refine tX.go re rs q fun d S1 m1 H1 v1 x1 re1 rs1 r1 q1 => ?_
    obtain ⟨k, ek, q2⟩ := q1.at_o
    refine ⟨k, by rw [c.K]; exact tru_of rs1 r1 ek, ?_⟩
    cases k with
    | false => exact ⟨m1, ρ, S1, re1, rs1, q2⟩
    | true => exact q2.at_ok rs1 r1
theorem r_not (c : Ctx G n X s W) (ha : PE X x (tE G W (evE C a))) : PE X (.UnaryOp .Not x pos) (tE G W (evE C (.not a))) :=
  pe_imp (pe_notT ha) fun σ H Q ⟨m, ρ, S, re, rs, q⟩ => by
    simp only [evE] at q
    refine tX.go re rs q fun d S1 m1 H1 v1 x1 re1 rs1 r1 q1 => ?_
    obtain ⟨k, ek, q2⟩ := q1.at_o
    exact ⟨k, by rw [c.K]; exact tru_of rs1 r1 ek, q2.at_ok rs1 rep_bl⟩
theorem r_ife {cd : Ex} (hc : PT X z (tT G W (evT C cd))) (ha : PE X x (tE G W (evE C a))) (hb : PE X y (tE G W (evE C b))) : PE X (.IfExp z x y pos) (tE G W (evE C (.ife cd a b))) :=
  pe_imp (pe_ifExp hc ha hb) fun σ H Q ⟨m, ρ, S, re, rs, q⟩ => by
    simp only [evE] at q
    refine tX.go re rs q fun k S1 m1 H1 k1 x1 re1 rs1 r1 q1 => ?_
    have e : k = k1 := r1
    subst e
    cases k with
    | true => exact ⟨m1, ρ, S1, re1, rs1, q1⟩
    | false => exact ⟨m1, ρ, S1, re1, rs1, q1⟩
theorem t_and {tb : TT} (ht : ∀ σ H Q, tT G W (evT C b) σ H Q → tb σ H Q) : ∀ σ H Q, tT G W (evT C (.and a b)) σ H Q → tAnd (tT G W (evT C a)) tb σ H Q := fun σ H Q ⟨m, ρ, S, re, rs, q⟩ => by
  simp only [evT] at q
  refine tX.go re rs q fun k S1 m1 H1 k1 x1 re1 rs1 r1 q1 => ?_
  have e : k = k1 := r1
  subst e
  cases k with
  | true => exact ht _ _ _ ⟨m1, ρ, S1, re1, rs1, q1⟩
  | false => exact q1.at_ok rs1 rfl
theorem t_or {tb : TT} (ht : ∀ σ H Q, tT G W (evT C b) σ H Q → tb σ H Q) : ∀ σ H Q, tT G W (evT C (.or a b)) σ H Q → tOr (tT G W (evT C a)) tb σ H Q := fun σ H Q ⟨m, ρ, S, re, rs, q⟩ => by
  simp only [evT] at q
  refine tX.go re rs q fun k S1 m1 H1 k1 x1 re1 rs1 r1 q1 => ?_
  have e : k = k1 := r1
  subst e
  cases k with
  | false => exact ht _ _ _ ⟨m1, ρ, S1, re1, rs1, q1⟩
  | true => exact q1.at_ok rs1 rfl
theorem r_notT (ha : PT X x (tT G W (evT C a))) : PT X (.UnaryOp .Not x pos) (tT G W (evT C (.not a))) :=
  pt_imp (pt_not ha) fun σ H Q ⟨m, ρ, S, re, rs, q⟩ => by
    simp only [evT] at q
    refine tX.go re rs q fun k S1 m1 H1 k1 x1 re1 rs1 r1 q1 => ?_
    have e : k = k1 := r1
    subst e
    exact q1.at_ok rs1 rfl
/-- an expression as a test: its value's truth -/
theorem r_truth (c : Ctx G n X s W) {ev : Fr → Store → Rs D} {evt : Fr → Store → Rs Bool} (ha : PE X x (tE G W ev)) (he : ∀ ρ S, evt ρ S = (ev ρ S).th fun d S1 => ofO (truD d S1) S1)
    (hw : ∀ whole : Sem Value, isTrue x X.env whole = (do let v ← whole; standAt x.pos; holding [v] (truthy v))) : PT X x (tT G W evt) :=
  pt_imp (pt_truth ha hw) fun σ H Q ⟨m, ρ, S, re, rs, q⟩ => by
    rw [he] at q
    refine tX.go re rs q fun d S1 m1 H1 v1 x1 re1 rs1 r1 q1 => ?_
    obtain ⟨k, ek, q2⟩ := q1.at_oe
    exact ⟨k, by rw [c.K]; exact tru_of rs1 r1 ek, q2.at_ok rs1 rfl⟩
/-! #### displays, places, slices, fields -/
theorem fin_len {σ : L2.St} {m : List Addr} {H : Hp} {S : Store} {d : D} {l : List D} {Q : VK} {I : Prop} (h : I) : I := h
theorem r_tup {k : Nat} (hl : PA X es (tL G W (evL C l))) (hz : es.length ≤ sizeLine) (hn : ∀ {σ H Q}, tL G W (evL C l) σ H Q → tL G W (evL C l) σ H fun xs H' => xs.length = es.length ∧ Q xs H') : PE X (.Tuple es k pos) (tE G W (evE C (.tup l))) :=
  pe_imp (pe_tup (pa_imp hl fun σ H Q q => q)) fun σ H Q ⟨m, ρ, S, re, rs, q⟩ => by
    simp only [evE] at q
    have q0 : tL G W (evL C l) σ H fun xs H1 => ∀ p, H1 p = none → Q (.ref p) (upd H1 p (.tup xs)) := tX.go re rs q fun ds S1 m1 H1 vs x1 re1 rs1 r1 q1 => fun p hp => fin_tup rs1 r1 hp (q1.toV (by intro _ _ _ h; cases h))
    obtain ⟨m, ρ, S, re, rs, q1⟩ := hn q0
    exact ⟨m, ρ, S, re, rs, q1.imp fun _ _ _ _ v _ _ _ w => ⟨by rw [w.1]; exact hz, w.2⟩⟩
theorem r_lst {k : Bool} (hl : PA X es (tL G W (evL C l))) (hz : es.length ≤ sizeLine) (hn : ∀ {σ H Q}, tL G W (evL C l) σ H Q → tL G W (evL C l) σ H fun xs H' => xs.length = es.length ∧ Q xs H') : PE X (.List es pos) (tE G W (evE C (.lst k l))) :=
  pe_imp (pe_lst (pa_imp hl fun σ H Q q => q)) fun σ H Q ⟨m, ρ, S, re, rs, q⟩ => by
    simp only [evE] at q
    have q0 : tL G W (evL C l) σ H fun xs H1 => ∀ p, H1 p = none → Q (.ref p) (upd H1 p (.lst xs)) := tX.go re rs q fun ds S1 m1 H1 vs x1 re1 rs1 r1 q1 => fun p hp => fin_mk rs1 r1 hp (q1.toV (noEx_mkL _ _ _))
    obtain ⟨m, ρ, S, re, rs, q1⟩ := hn q0
    exact ⟨m, ρ, S, re, rs, q1.imp fun _ _ _ _ v _ _ _ w => ⟨by rw [w.1]; exact hz, w.2⟩⟩
/-- as many values as expressions -/
def lenX : Exs → Nat
  | .nil => 0
  | .cons _ l => lenX l + 1
theorem evL_len : ∀ (l : Exs) {ρ : Fr} {S S' : Store} {ds : List D}, evL C l ρ S = .ok ds S' → ds.length = lenX l
  | .nil, ρ, S, S', ds, h => by
    simp only [evL] at h
    cases h; rfl
  | .cons e l, ρ, S, S', ds, h => by
    simp only [evL] at h
    cases h1 : evE C e ρ S with
    | ok d S1 =>
      rw [h1, th_ok] at h
      cases h2 : evL C l ρ S1 with
      | ok ds2 S2 =>
        rw [h2, th_ok] at h
        cases h
        simp only [List.length_cons, evL_len l h2, lenX]
      | ex _ _ _ => rw [h2] at h; cases h
      | bad => rw [h2] at h; cases h
    | ex _ _ _ => rw [h1] at h; cases h
    | bad => rw [h1] at h; cases h
theorem chkL_len {M : Nm} : ∀ (l : Exs) (es : List Expr), chkL M l s es = true → lenX l = es.length
  | .nil, es, h => by
    simp only [chkL, List.isEmpty_iff] at h
    rw [h]; rfl
  | .cons e l, es, h => by
    simp only [chkL] at h
    split at h
    · simp only [Bool.and_eq_true] at h
      simp only [lenX, List.length_cons, chkL_len l _ h.2]
    · cases h
theorem len_of {M : Nm} (h : chkL M l s es = true) {σ : L2.St} {H : Hp} {Q : List V → Hp → Prop} : tL G W (evL C l) σ H Q → tL G W (evL C l) σ H fun xs H' => xs.length = es.length ∧ Q xs H' := fun ⟨m, ρ, S, re, rs, q⟩ => by
  refine ⟨m, ρ, S, re, rs, ?_⟩
  cases e : evL C l ρ S with
  | ok ds S' =>
    rw [e] at q
    intro m' H' vs x rs' r
    exact ⟨by rw [← r.length, evL_len l e, chkL_len l es h], q m' H' vs x rs' r⟩
  | ex _ _ _ => rw [e] at q; exact q
  | bad => rw [e] at q; exact q
theorem r_idx (c : Ctx G n X s W) (ha : PE X x (tE G W (evE C a))) (hb : PE X y (tE G W (evE C b))) (hy : notSlice y = true) : PE X (.Subscript x y pos) (tE G W (evE C (.idx a b))) :=
  pe_imp (pe_ix (op_idx (G := G) c.K) ha hb (ix_of hy)) fun σ H Q ⟨m, ρ, S, re, rs, q⟩ => by
    simp only [evE] at q
    refine tX.go re rs q fun d S1 m1 H1 v1 x1 re1 rs1 r1 q1 => ?_
    refine tX.go re1 rs1 q1 fun d2 S2 m2 H2 v2 x2 re2 rs2 r2 q2 => ?_
    exact ⟨m2, S2, d, d2, rs2, Rep.mono x2 _ _ r1, r2, q2.toV (noEx_ofO _ _)⟩
theorem r_no : PO X none (tI G W (evI C .no)) := po_imp po_none fun σ H Q ⟨m, ρ, S, re, rs, q⟩ => by
  simp only [evI] at q
  exact q.at_ok rs rfl
theorem r_yes (ha : PE X x (tE G W (evE C a))) : PO X (some x) (tI G W (evI C (.yes a))) := po_imp (po_some ha) fun σ H Q ⟨m, ρ, S, re, rs, q⟩ => by
  simp only [evI] at q
  refine tX.go re rs q fun d S1 m1 H1 v1 x1 re1 rs1 r1 q1 => ?_
  split at q1
  · exact ⟨_, r1.int_inv, q1.at_ok rs1 rfl⟩
  · exact q1.elim
theorem r_slc (c : Ctx G n X s W) {k : Bool} {lo hi : Exo} {ol oh : Option Expr} {p2 : Pos} (ha : PE X x (tE G W (evE C a))) (hl : PO X ol (tI G W (evI C lo))) (hh : PO X oh (tI G W (evI C hi))) : PE X (.Subscript x (.Slice ol oh none p2) pos) (tE G W (evE C (.slc k a lo hi))) :=
  pe_imp (pe_slice (op_slc (G := G) c.K k) ha hl hh) fun σ H Q ⟨m, ρ, S, re, rs, q⟩ => by
    simp only [evE] at q
    refine tX.go re rs q fun d S1 m1 H1 v1 x1 re1 rs1 r1 q1 => ?_
    refine tX.go re1 rs1 q1 fun o2 S2 m2 H2 v2 x2 re2 rs2 r2 q2 => ?_
    refine tX.go re2 rs2 q2 fun o3 S3 m3 H3 v3 x3 re3 rs3 r3 q3 => ?_
    have e2 : o2 = v2 := r2
    have e3 : o3 = v3 := r3
    subst e2 e3
    refine ⟨m3, S3, d, rs3, Rep.mono (x2.trans x3) _ _ r1, fun t et => ?_, q3.toV (noEx_slc _ _ _ _ _)⟩
    subst et
    simp only [slcD] at q3
    split at q3
    · assumption
    · exact q3.elim
end
end Ev
end
section
set_option maxRecDepth 100000
set_option maxHeartbeats 4000000
/-! Ev, part 11: fields, calls, new instances. -/
namespace Ev
open PySem PySem.Spec PyProof.Rows L2
section
variable {G : Pg}
theorem att_inj (hd : Hd G) {f g : Nat} (h : G.att f = G.att g) : f = g := by
  have out : ∀ (k : Nat) (x : Str), G.M.atts[k]? = some x → x.length < 1000 := fun k x e => hd.atl x (List.mem_of_getElem? e)
  have big : ∀ k : Nat, (⟨Array.replicate (1000 + k) 0⟩ : Str).length = 1000 + k := fun k => by
    show (Array.replicate (1000 + k) 0).size = _
    simp
  unfold Pg.att at h
  cases e1 : G.M.atts[f]? with
  | none =>
    rw [e1] at h
    cases e2 : G.M.atts[g]? with
    | none =>
      rw [e2] at h
      have := congrArg Str.length h
      simp only [big] at this
      omega
    | some y =>
      rw [e2] at h
      have h1 := out _ _ e2
      have h : (⟨Array.replicate (1000 + f) 0⟩ : Str) = y := h
      rw [← h, big] at h1
      omega
  | some x =>
    rw [e1] at h
    cases e2 : G.M.atts[g]? with
    | none =>
      rw [e2] at h
      have h1 := out _ _ e1
      have h : x = (⟨Array.replicate (1000 + g) 0⟩ : Str) := h
      rw [h, big] at h1
      omega
    | some y =>
      rw [e2] at h
      have h : x = y := h
      subst h
      obtain ⟨l1, q1⟩ := List.getElem?_eq_some_iff.mp e1
      obtain ⟨l2, q2⟩ := List.getElem?_eq_some_iff.mp e2
      exact (List.getElem_inj hd.atn).mp (q1.trans q2.symm)
theorem att_of {f : Nat} {x : Str} (h : G.M.atts[f]? = some x) : G.att f = x := by
  unfold Pg.att
  rw [h]
theorem look_zip (hd : Hd G) {f : Nat} {m : List Addr} {H : Hp} : ∀ {ks : List Nat} {ds : List D} {vs : List V} {d : D}, RepL G m H ds vs → lookN f (ks.zip ds) = some d → ∃ v, ((ks.map G.att).zip vs).lookup (G.att f) = some v ∧ Rep G m H d v
  | [], _, _, _, _, h => by simp [lookN] at h
  | k :: ks, [], _, _, _, h => by simp [lookN] at h
  | k :: ks, d :: ds, _, e, r, h => by
    simp only [RepL] at r
    obtain ⟨v, vs, rfl, r1, r2⟩ := r
    simp only [List.zip_cons_cons, lookN] at h
    simp only [List.map_cons, List.zip_cons_cons, List.lookup_cons]
    by_cases hk : k = f
    · subst hk
      rw [if_pos rfl] at h
      cases h
      exact ⟨v, by simp, r1⟩
    · rw [if_neg hk] at h
      have hne : (G.att f == G.att k) = false := by
        rw [beq_eq_false_iff_ne]
        exact fun z => hk (att_inj hd z).symm
      rw [hne]
      exact look_zip hd r2 h
theorem look_fs (hd : Hd G) {f : Nat} {m : List Addr} {H : Hp} {fs : List (Nat × D)} {vs : List V} {d : D} (r : RepL G m H (fs.map (·.2)) vs) (h : lookN f fs = some d) : ∃ v, ((fs.map fun g => G.att g.1).zip vs).lookup (G.att f) = some v ∧ Rep G m H d v := by
  have e : fs = (fs.map (·.1)).zip (fs.map (·.2)) := by
    clear h r
    induction fs with
    | nil => rfl
    | cons a l ih =>
      simp only [List.map_cons, List.zip_cons_cons]
      rw [← ih]
  rw [e] at h
  have := look_zip hd r h
  rw [List.map_map] at this
  exact this
theorem look_none (hd : Hd G) {f : Nat} : ∀ {ks : List Nat} {vs : List V}, ks.contains f = false → ((ks.map G.att).zip vs).lookup (G.att f) = none
  | [], _, _ => by simp
  | k :: ks, [], _ => by simp
  | k :: ks, v :: vs, h => by
    simp only [List.contains_cons, Bool.or_eq_false_iff, beq_eq_false_iff_ne] at h
    simp only [List.map_cons, List.zip_cons_cons, List.lookup_cons]
    have hne : (G.att f == G.att k) = false := by
      rw [beq_eq_false_iff_ne]
      exact fun z => h.1 (att_inj hd z)
    rw [hne]
    exact look_none hd h.2
end
section
variable {G : Pg} {n : Nat} {X : Cx} {s : Sx} {W : WX} {C : Cs} {e x y z : Expr} {p pos apos : Pos} {a b : Ex} {es : List Expr} {l l2 : Exs}
theorem mem_look {f : Nat} : ∀ {ks : List Nat} {ds : List D} {d : D}, lookN f (ks.zip ds) = some d → ks.contains f = true
  | [], _, _, h => by simp [lookN] at h
  | k :: ks, [], _, h => by simp [lookN] at h
  | k :: ks, d :: ds, e, h => by
    simp only [List.zip_cons_cons, lookN] at h
    simp only [List.contains_cons, Bool.or_eq_true, beq_iff_eq]
    by_cases hk : k = f
    · exact .inl hk.symm
    · rw [if_neg hk] at h
      exact .inr (mem_look h)
theorem cls_lt {c f : Nat} {T : Tb} (h : (fldsOf T c).contains f = true) : c < T.cls.length := by
  unfold fldsOf at h
  split at h
  · rename_i e
    exact (List.getElem?_eq_some_iff.mp e).1
  · simp at h
theorem r_att (hd : Hd G) (c : Ctx G n X s W) (hT : C.T = G.T) {f : Nat} {nm : Str} (hn : G.M.atts[f]? = some nm) (ha : PE X x (tE G W (evE C a))) (hs : noSup x = true) : PE X (.Attribute x nm pos) (tE G W (evE C (.att a f))) := by
  rw [← att_of hn]
  refine pe_imp (pe_fld ha (base_of hs)) fun σ H Q ⟨m, ρ, S, re, rs, q⟩ => ?_
  simp only [evE] at q
  refine tX.go re rs q fun d S1 m1 H1 v1 x1 re1 rs1 r1 q1 => ?_
  obtain ⟨u, eu, q2⟩ := q1.at_oe
  rw [hT] at eu
  rw [c.K]
  unfold attD at eu
  split at eu
  · rename_i k l
    have hk := mem_look eu
    obtain ⟨A, vs, rfl, ⟨_, dx, hA⟩, r⟩ := r1.obj_inv
    obtain ⟨w, hw, rw_⟩ := look_zip hd r eu
    exact ⟨A, _, dx, _, w, rfl, hA, (hd.cls k (cls_lt hk)).cls, hd.na k f hk, hw, q2.at_ok rs1 rw_⟩
  · rename_i i
    split at eu
    · rename_i k fs es
      split at eu
      · rename_i hk
        obtain ⟨A, rfl, hA⟩ := r1.ref_inv
        obtain ⟨A', hA', dx, vs, hv, r⟩ := rs1.cel _ _ es
        rw [hA] at hA'; cases hA'
        obtain ⟨w, hw, rw_⟩ := look_fs hd r eu
        exact ⟨A, _, dx, _, w, rfl, hv, (hd.cls k (cls_lt hk)).cls, hd.na k f hk, hw, q2.at_ok rs1 rw_⟩
      · cases eu
    · cases eu
  · cases eu
/-! #### calls -/
theorem r_call (hd : Hd G) (np : NpOk G) (c : Ctx G n X s W) (hC : C = csOf G.T n) {f : Nat} {nm : Str} (hg : gloB s nm = true) (hn : G.M.fns[f]? = some nm) (hl : chkL G.M l s es = true) (ha : PA X es (tL G W (evL C l))) (hf : f < G.T.fns.length) :
    PE X (.Call (.Name nm p) es [] pos) (tE G W (evE C (.call f l))) := by
  obtain ⟨g1, g2, g3, g4, g5⟩ := c.glo hg
  obtain ⟨f1, f2⟩ := hd.fn f nm hn g5
  refine pe_imp (pe_anyc (r := fun vs zs σ H Q => ∃ m S ds, zs = [] ∧ RS G m H S ∧ RepL G m H ds vs ∧ Fin G W σ (Rep G) m H (run G.T n f ds S) fun _ _ _ H' v => Q v H') g1 (by rw [c.mg]; exact f1) (by rw [c.K]; exact f2) g2 (chkL_star _ _ _ hl) rfl ha (fun e σ H Q q => nil_of hl e q) pk_nil ?_) fun σ H Q ⟨m, ρ, S, re, rs, q⟩ => ?_
  · rintro pins st σ H vs zs us ws Q I rv rz ⟨m, S, ds, rfl, rs, r, q⟩
    cases rz
    have hb : run G.T n f ds S ≠ .bad := fun e => by rw [e] at q; exact q.elim
    obtain ⟨F, eF, hlF⟩ := run_len hb
    have hz : us.length = (G.ps f).length := by rw [np f F eF, ← hlF, r.length, rv.length]
    have b := hd.pos f hf st us (by rw [← c.K]; exact I.kIn) (by rw [app_nil]; exact hz)
    rw [app_nil] at b
    exact run_ev np c c.lv c.room hf b I rv rs r q
  · rw [hC] at q ⊢
    simp only [evE, csOf_fn] at q
    refine tX.go re rs q fun ds S1 m1 H1 vs x1 re1 rs1 r1 q1 => ?_
    exact ⟨m1, S1, ds, rfl, rs1, r1, q1⟩
theorem r_calk (hd : Hd G) (np : NpOk G) (c : Ctx G n X s W) (hC : C = csOf G.T n) {f : Nat} {nm : Str} {qs : List Keyword} {pm : List Nat} (hg : gloB s nm = true) (hn : G.M.fns[f]? = some nm) (hl : chkL G.M l s es = true) (ha : PA X es (tL G W (evL C l)))
    (hq : kwAll qs = true) (hk : PK X qs (tL G W (evL C l2))) (hk2 : chkL G.M l2 s (kwE qs) = true) (hm : (f, es.length, kwN qs, pm) ∈ G.M.kws) : PE X (.Call (.Name nm p) es qs pos) (tE G W (evE C (.calk f l l2 pm))) := by
  obtain ⟨g1, g2, g3, g4, g5⟩ := c.glo hg
  obtain ⟨f1, f2⟩ := hd.fn f nm hn g5
  obtain ⟨hf, kw⟩ := hd.kw _ _ _ _ hm
  refine pe_imp (pe_anyc (r := fun vs zs σ H Q => ∃ m S ds ks ws, vs.length = es.length ∧ zs.length = (kwN qs).length ∧ RS G m H S ∧ RepL G m H (ds ++ ks) (vs ++ zs) ∧ pick (ds ++ ks) pm = some ws ∧ Fin G W σ (Rep G) m H (run G.T n f ws S) fun _ _ _ H' v => Q v H') g1 (by rw [c.mg]; exact f1) (by rw [c.K]; exact f2) g2 (chkL_star _ _ _ hl) hq ha (fun e σ H Q q => nil_of hl e q) hk ?_) fun σ H Q h => ?_
  · rintro pins st σ H vs zs us ws Q I rv rz ⟨m, S, ds, ks, xs, l1, l2, rs, r, ep, q⟩
    obtain ⟨xv, ex, rx⟩ := r.pick pm ep
    obtain ⟨xu, eu, ru⟩ := vals_pick (rv.append rz) pm ex
    obtain ⟨xu', eu', b⟩ := kw st us ws (by rw [← c.K]; exact I.kIn) (by rw [← rv.length]; exact l1) (by rw [← rz.length]; exact l2)
    rw [eu] at eu'; cases eu'
    exact run_ev np c c.lv c.room hf b I ru rs rx q
  · rw [hC] at h ⊢
    obtain ⟨m, ρ, S, re, rs, q⟩ := h
    simp only [evE, csOf_fn] at q
    refine tX.goe re rs q fun ds S1 m1 H1 vs e1 x1 re1 rs1 r1 q1 => ?_
    refine tX.goe re1 rs1 q1 fun zs S2 m2 H2 us e2 x2 re2 rs2 r2 q2 => ?_
    obtain ⟨ws, ep, q3⟩ := q2.at_o
    exact ⟨m2, S2, ds, zs, ws, by rw [← r1.length, evL_len l e1, chkL_len l es hl], by rw [← r2.length, evL_len l2 e2, chkL_len l2 _ hk2, kwN_length], rs2, (RepL.mono x2 _ _ r1).append r2, ep, q3⟩
/-! #### new instances -/
/-- the instance laid, its __init__ run, its end as the evaluator says -/
theorem mak_fin {T : Tb} {fn1 : Nat → List D → Store → Rs D} (hT : T = G.T) {σ : L2.St} {m : List Addr} {H : Hp} {S : Store} {q : Addr} {dx : Addr} {k i : Nat} {Cc : Cl} {f : Bool} {ds : List D} {vs : List V} {Q : VK} (rs : RS G m H S) (r : RepL G m H ds vs) (hc : G.T.cls[k]? = some Cc) (hi : Cc.init = some i)
    (hq : H q = none) (hx : H dx = none) (ne : dx ≠ q) (h : Fin G W σ (Rep G) m H (makD T fn1 f k ds S) fun _ _ _ H' v => Q v H') :
    RS G (m ++ [q]) (upd (upd H dx (.own q)) q (.ins (G.ca k) dx [])) (S ++ [.ins k []]) ∧ RepL G (m ++ [q]) (upd (upd H dx (.own q)) q (.ins (G.ca k) dx [])) (.ref S.length :: ds) (.ref q :: vs) ∧
      Fin G W σ (Rep G) (m ++ [q]) (upd (upd H dx (.own q)) q (.ins (G.ca k) dx [])) (fn1 i (.ref S.length :: ds) (S ++ [.ins k []])) fun _ _ _ H' v => v = .non ∧ Q (.ref q) H' := by
  subst hT
  have x1 : Ext m H m (upd H dx (.own q)) := Ext.new hx
  have rs1 : RS G m (upd H dx (.own q)) S := rs.new hx
  have hq1 : upd H dx (.own q) q = none := by rw [upd_ne (Ne.symm ne)]; exact hq
  have x2 : Ext m (upd H dx (.own q)) (m ++ [q]) (upd (upd H dx (.own q)) q (.ins (G.ca k) dx [])) := Ext.cell hq1
  have rs2 : RS G (m ++ [q]) (upd (upd H dx (.own q)) q (.ins (G.ca k) dx [])) (S ++ [.ins k []]) := rs1.cell hq1 ⟨dx, [], by simp only [List.map_nil, List.zip_nil_left]; exact upd_same, by simp only [List.map_nil]; exact RepL.nil⟩
  have x3 := x1.trans x2
  have hm : (m ++ [q])[S.length]? = some q := by rw [← rs.len]; simp
  have hqm : q ∉ m := rs.fresh hq
  refine ⟨rs2, RepL.cons (rep_ref hm) (RepL.mono x3 _ _ r), ?_⟩
  unfold makD at h
  rw [hc] at h
  simp only [hi] at h
  generalize fn1 i (.ref S.length :: ds) (S ++ [.ins k []]) = R at h ⊢
  cases R with
  | bad => exact h
  | ex c l S' =>
    intro m' H' d xx rs' xr
    simp only at h
    split at h
    · rename_i hb
      rw [Bool.and_eq_true] at hb
      obtain ⟨rs4, x4⟩ := rs'.drop (x3.trans xx) rs hb.1
      obtain ⟨us, hd1, ru, hl⟩ := xr
      exact h m H' d x4 rs4 ⟨us, hd1, RepL.less (x3.trans xx).pre _ _ (by rw [rs.len]; exact hb.2) ru, hl⟩
    · exact h m' H' d (x3.trans xx) rs' xr
  | ok d S' =>
    cases d with
    | non =>
      intro m' H' v xx rs' rv
      refine ⟨rv.non_inv, ?_⟩
      simp only at h
      split at h
      · exact h m' H' _ (x3.trans xx) rs' (rep_ref (pre_get xx.pre hm))
      · split at h
        · rename_i c' fs es
          split at h
          · rename_i hb
            obtain ⟨e1, e2, e3, e4⟩ := hb
            subst e1
            obtain ⟨rs4, x4⟩ := rs'.drop (x3.trans xx) rs e4
            obtain ⟨p', hp', dx', us, hv, ru⟩ := rs'.cel _ _ es
            have ep : p' = q := by
              have := pre_get xx.pre hm
              rw [this] at hp'
              exact (Option.some.inj hp').symm
            subst ep
            refine h m H' _ x4 rs4 (rep_obj ⟨hqm, dx', ?_⟩ (RepL.less (x3.trans xx).pre _ _ (by rw [rs.len]; exact e3) ru))
            rw [hv]
            unfold namesOf fldsOf
            rw [hc]
            simp only
            rw [← e2, List.map_map]
            rfl
          · exact h.elim
        · exact h.elim
    | _ => exact h.elim
theorem run_mk (np : NpOk G) (hd : Hd G) (c : Ctx G (n + 1) X s W) {pins : List (Addr × Obj)} {σ : L2.St} {m : List Addr} {H : Hp} {S : Store} {st : Shared} {k i : Nat} {Cc : Cl} {f : Bool} {ds : List D} {vs : List V} {us zs : List Value} {kw : List (Str × Value)} {Q : VK} (I : L2.Inv X pins σ H st) (rs : RS G m H S) (r : RepL G m H ds vs) (hc : G.T.cls[k]? = some Cc) (hi : Cc.init = some i)
    (rv : Vals vs zs) (b : ∀ (st' : Shared) (z : Value), G.K.In st'.heap → BindsTo st' (G.fd i) ⟨z :: us, kw⟩ ((G.ps i).zip (z :: zs)))
    (h : Fin G W σ (Rep G) m H (makD G.T (run G.T n) f k ds S) fun _ _ _ H' v => Q v H') : wpAny (model X.prog X.w) X.A (call (.ref (G.ca k)) us kw) (EP X pins σ Q) X.xe st := by
  obtain ⟨hf, M⟩ := hd.mak k Cc i hc hi
  rw [← c.K] at M
  obtain ⟨rs2, r2, h2⟩ := mak_fin (q := st.heap.objs.size + 1) (dx := st.heap.objs.size) rfl rs r hc hi (I.hok.fresh (Nat.le_succ _)) (I.hok.fresh (Nat.le_refl _)) (Nat.ne_of_lt (Nat.lt_succ_self _)) h
  have I2 := Inv.made (C := G.ca k) I
  have F := c.lv1 n rfl i hf
  rw [← c.prog, ← c.w, ← c.K, ← c.mg, ← c.base] at F
  have px := c.pass σ
  rw [← c.prog, ← c.w] at px
  have rz : Vals (V.ref (st.heap.objs.size + 1) :: vs) (Value.ref (st.heap.objs.size + 1) :: zs) := .cons rfl rv
  refine wpAny_call (make_map (f := G.fa i) I.kIn M.makes M.init (beq_iff_eq.mp M.fn) (codeAny_mono (F.run _ X.stack _ _ ⟨Value.ref (st.heap.objs.size + 1) :: us, kw⟩ _ _ _ (WE W σ) (c.room.make (G.ca k) us kw) (I2.env0.make (G.ca k) us kw) (b _ _ (by rw [← c.K]; exact I2.kIn)) rz (spF_of np rs2 r2 h2)) fun q s' hq => ?_))
  cases q with
  | error e => exact px pins _ _ e s' I2 hq
  | ok fl =>
    cases fl with
    | ret u =>
      obtain ⟨v, H', I3, ru, ev, q3⟩ := I2.after hq
      subst ev
      exact ⟨ru, ⟨V.ref (st.heap.objs.size + 1), H', I3, rfl, q3⟩⟩
    | next => exact False.elim hq
    | brk => exact False.elim hq
    | cont => exact False.elim hq
theorem mak_zero {T : Tb} {k : Nat} {f : Bool} {ds : List D} {S : Store} : makD (csOf T 0).T (csOf T 0).fn1 f k ds S = .bad := by
  unfold makD
  split
  · split
    · rfl
    · rfl
  · rfl
theorem Ctx.bind (c : Ctx G n X s W) (hd : Hd G) (np : NpOk G) {i : Nat} (hi : i < G.T.fns.length) {us : List Value} {st : Shared} (hl : us.length = (G.ps i).length) (hK : G.K.In st.heap) : BindsTo st (G.fd i) ⟨us, []⟩ ((G.ps i).zip us) := by
  have b := hd.pos i hi st us hK (by rw [app_nil]; exact hl)
  rw [app_nil] at b
  exact b
theorem makD_len (np : NpOk G) {f : Bool} {k i : Nat} {Cc : Cl} {ds : List D} {S : Store} (hc : G.T.cls[k]? = some Cc) (hi : Cc.init = some i) (h : makD G.T (run G.T n) f k ds S ≠ .bad) : ds.length + 1 = (G.ps i).length := by
  have hb : run G.T n i (.ref S.length :: ds) (S ++ [.ins k []]) ≠ .bad := fun e => h (by
    unfold makD
    rw [hc]
    simp only [hi]
    rw [e])
  obtain ⟨F, eF, hF⟩ := run_len hb
  rw [np i F eF, ← hF]; rfl
theorem r_mak (hd : Hd G) (np : NpOk G) (c : Ctx G n X s W) (hC : C = csOf G.T n) {k : Nat} {f : Bool} {nm : Str} (hg : gloB s nm = true) (hn : G.M.cls[k]? = some nm) (hl : chkL G.M l s es = true) (ha : PA X es (tL G W (evL C l))) :
    PE X (.Call (.Name nm p) es [] pos) (tE G W (evE C (.mak f k l))) := by
  obtain ⟨g1, g2, g3, g4, g5⟩ := c.glo hg
  obtain ⟨hk, f1⟩ := hd.cmg k nm hn
  obtain ⟨Cc, hc⟩ : ∃ Cc, G.T.cls[k]? = some Cc := ⟨_, List.getElem?_eq_getElem hk⟩
  obtain ⟨i, hi⟩ := hd.ini k Cc hc
  obtain ⟨hf, M⟩ := hd.mak k Cc i hc hi
  refine pe_imp (pe_anyc (r := fun vs zs σ H Q => ∃ m S ds, zs = [] ∧ RS G m H S ∧ RepL G m H ds vs ∧ Fin G W σ (Rep G) m H (makD C.T C.fn1 f k ds S) fun _ _ _ H' v => Q v H') g1 (by rw [c.mg]; exact f1) (by rw [c.K]; exact M.kp) g2 (chkL_star _ _ _ hl) rfl ha (fun e σ H Q q => nil_of hl e q) pk_nil ?_) fun σ H Q ⟨m, ρ, S, re, rs, q⟩ => ?_
  · rintro pins st σ H vs zs us ws Q I rv rz ⟨m, S, ds, rfl, rs, r, q⟩
    cases rz
    rw [hC] at q
    cases n with
    | zero => rw [mak_zero] at q; exact q.elim
    | succ n =>
      rw [csOf_T, csOf_fn1] at q
      have hb : makD G.T (run G.T n) f k ds S ≠ .bad := fun e => by rw [e] at q; exact q.elim
      have hz := makD_len np hc hi hb
      exact run_mk np hd c I rs r hc hi rv (fun st' z hK => c.bind hd np hf (by simp only [List.length_cons]; rw [← rv.length, ← r.length]; exact hz) hK) q
  · simp only [evE] at q
    refine tX.go re rs q fun ds S1 m1 H1 vs x1 re1 rs1 r1 q1 => ?_
    exact ⟨m1, S1, ds, rfl, rs1, r1, q1⟩
theorem r_makk (hd : Hd G) (np : NpOk G) (c : Ctx G n X s W) (hC : C = csOf G.T n) {k : Nat} {f : Bool} {nm : Str} {qs : List Keyword} {pm : List Nat} (hg : gloB s nm = true) (hn : G.M.cls[k]? = some nm) (hl : chkL G.M l s es = true) (ha : PA X es (tL G W (evL C l)))
    (hq : kwAll qs = true) (hkw : PK X qs (tL G W (evL C l2))) (hk2 : chkL G.M l2 s (kwE qs) = true) (hm : (k, es.length, kwN qs, pm) ∈ G.M.ckw) : PE X (.Call (.Name nm p) es qs pos) (tE G W (evE C (.makk f k l l2 pm))) := by
  obtain ⟨g1, g2, g3, g4, g5⟩ := c.glo hg
  obtain ⟨hk, f1⟩ := hd.cmg k nm hn
  obtain ⟨Cc, hc⟩ : ∃ Cc, G.T.cls[k]? = some Cc := ⟨_, List.getElem?_eq_getElem hk⟩
  obtain ⟨i, hi⟩ := hd.ini k Cc hc
  obtain ⟨hf, M⟩ := hd.mak k Cc i hc hi
  have kw := hd.ckw _ _ _ _ _ _ hm hc hi
  refine pe_imp (pe_anyc (r := fun vs zs σ H Q => ∃ m S ds ks ws, vs.length = es.length ∧ zs.length = (kwN qs).length ∧ RS G m H S ∧ RepL G m H (ds ++ ks) (vs ++ zs) ∧ pick (ds ++ ks) pm = some ws ∧ Fin G W σ (Rep G) m H (makD C.T C.fn1 f k ws S) fun _ _ _ H' v => Q v H') g1 (by rw [c.mg]; exact f1) (by rw [c.K]; exact M.kp) g2 (chkL_star _ _ _ hl) hq ha (fun e σ H Q q => nil_of hl e q) hkw ?_) fun σ H Q h => ?_
  · rintro pins st σ H vs zs us ws Q I rv rz ⟨m, S, ds, ks, xs, l1, l2, rs, r, ep, q⟩
    obtain ⟨xv, ex, rx⟩ := r.pick pm ep
    obtain ⟨xu, eu, ru⟩ := vals_pick (rv.append rz) pm ex
    rw [hC] at q
    cases n with
    | zero => rw [mak_zero] at q; exact q.elim
    | succ n =>
      rw [csOf_T, csOf_fn1] at q
      refine run_mk np hd c I rs rx hc hi ru (fun st' z hK => ?_) q
      obtain ⟨xu', eu', b⟩ := kw st' z us ws hK (by rw [← rv.length]; exact l1) (by rw [← rz.length]; exact l2)
      rw [eu] at eu'; cases eu'
      exact b
  · obtain ⟨m, ρ, S, re, rs, q⟩ := h
    simp only [evE] at q
    refine tX.goe re rs q fun ds S1 m1 H1 vs e1 x1 re1 rs1 r1 q1 => ?_
    refine tX.goe re1 rs1 q1 fun zs S2 m2 H2 us e2 x2 re2 rs2 r2 q2 => ?_
    obtain ⟨ws, ep, q3⟩ := q2.at_o
    exact ⟨m2, S2, ds, zs, ws, by rw [← r1.length, evL_len l e1, chkL_len l es hl], by rw [← r2.length, evL_len l2 e2, chkL_len l2 _ hk2, kwN_length], rs2, (RepL.mono x2 _ _ r1).append r2, ep, q3⟩
/-! #### o.m(..) -/
theorem meth_tree {o : Expr} {nm : Str} {env : Env} (hb : noSup o = true) (hst : es.all noStar = true) (hl : es.length < 20) (hp : (apos.endLine == pos.line) = true) :
    ∃ pl, eval (.Call (.Attribute o nm apos) es [] pos) env = (do
      let ov ← eval o env
      standAt apos.atName
      let (f, first) ← holding [ov] (getMethod ov nm pl)
      callWith pos f first (backTo pos (starEach es env)) (backToKw pos (keywordEach [] env))) := by
  refine ⟨(do return (← importBound o env).getD true), mcall_of (base_of hb) fun ov => ?_⟩
  have hall : (backTo pos (starEach es env)).all (fun x => !x.1) = true := by
    have h := any_star (env := env) (pos := pos) hst
    generalize backTo pos (starEach es env) = l at h
    induction l with
    | nil => rfl
    | cons a l ih =>
      simp only [List.any_cons, Bool.or_eq_false_iff] at h
      simp only [List.all_cons, Bool.and_eq_true, Bool.not_eq_true']
      exact ⟨h.1, ih h.2⟩
  have hform : methodCallForm (es.length + ([] : List Keyword).length) (backTo pos (starEach es env)) (backToKw pos (keywordEach [] env)) = true := by
    unfold methodCallForm
    rw [hall]
    have : (backToKw pos (keywordEach [] env)) = [] := rfl
    rw [this]
    simp only [List.all_nil, Bool.true_and, List.isEmpty_nil, if_true, List.length_nil, Nat.add_zero, decide_eq_true_eq]
    omega
  unfold methodCall
  rw [hform]
  unfold methodCallPos calleeOf
  simp only [hp, Bool.not_true, Bool.false_or, if_true, pure_bind]
end
end Ev
end
section
set_option maxRecDepth 100000
set_option maxHeartbeats 4000000
/-! Ev, part 12: methods, built-ins, isinstance. -/
namespace Ev
open PySem PySem.Spec PyProof.Rows L2
section
variable {G : Pg} {n : Nat} {X : Cx} {s : Sx} {W : WX} {C : Cs} {e x y z : Expr} {p pos apos : Pos} {a b : Ex} {es : List Expr} {l l2 : Exs}
theorem r_mth (hd : Hd G) (np : NpOk G) (c : Ctx G n X s W) (hC : C = csOf G.T n) {f : Nat} {nm : Str} (hn : G.M.atts[f]? = some nm) (hl : chkL G.M l s es = true) (ho : PE X x (tE G W (evE C a))) (hs : noSup x = true) (ha : PA X es (tL G W (evL C l)))
    (hz : es.length < 20) (hp : (apos.endLine == pos.line) = true) : PE X (.Call (.Attribute x nm apos) es [] pos) (tE G W (evE C (.mth a f l))) := by
  subst hC
  obtain ⟨pl, tree⟩ := meth_tree (es := es) (env := X.env) (nm := nm) hs (chkL_star _ _ _ hl) hz hp
  rw [← att_of hn] at tree ⊢
  refine ⟨fun pins st σ H Q I h => methcall_of ho I ?_ tree⟩
  obtain ⟨m, ρ, S, re, rs, q⟩ := h
  simp only [evE] at q
  refine tX.go re rs q fun d S1 m1 H1 v1 x1 re1 rs1 r1 q1 => ?_
  obtain ⟨g, eg, q2⟩ := q1.at_o
  rw [csOf_T] at eg
  -- the instance
  obtain ⟨A, k, dx, fs, hv, hA, hk, hm, hno⟩ : ∃ A k dx fs, v1 = .ref A ∧ H1 A = some (.ins (G.ca k) dx fs) ∧ k < G.T.cls.length ∧ mthC G.T k f = some g ∧ fs.lookup (G.att f) = none := by
    unfold mthOf at eg
    split at eg
    · rename_i k l
      split at eg
      · cases eg
      · rename_i hc
        obtain ⟨A, vs, rfl, ⟨_, dx, hA⟩, r⟩ := r1.obj_inv
        refine ⟨A, k, dx, _, rfl, hA, ?_, eg, look_none hd (by simpa using hc)⟩
        unfold mthC at eg
        split at eg
        · rename_i e
          exact (List.getElem?_eq_some_iff.mp e).1
        · cases eg
    · rename_i i
      split at eg
      · rename_i k fs es
        split at eg
        · cases eg
        · rename_i hc
          obtain ⟨A, rfl, hA⟩ := r1.ref_inv
          obtain ⟨A', hA', dx, vs, hv, r⟩ := rs1.cel _ _ es
          rw [hA] at hA'; cases hA'
          have hno := look_none hd (vs := vs) (show (fs.map (·.1)).contains f = false by simpa using hc)
          rw [List.map_map] at hno
          refine ⟨A, k, dx, _, rfl, hv, ?_, eg, hno⟩
          unfold mthC at eg
          split at eg
          · rename_i e
            exact (List.getElem?_eq_some_iff.mp e).1
          · cases eg
      · cases eg
    · cases eg
  obtain ⟨Cc, hc⟩ : ∃ Cc, G.T.cls[k]? = some Cc := ⟨_, List.getElem?_eq_getElem hk⟩
  unfold mthC at hm
  rw [hc] at hm
  obtain ⟨hg, hM⟩ := hd.mth k Cc f g hc hm
  subst hv
  refine ⟨A, G.ca k, dx, fs, G.fa g, rfl, hA, by rw [c.K]; exact (hd.cls k hk).cls, by rw [c.K]; exact hM, hno, fun s1 I1 => ?_⟩
  have hkp : PySem.W.keepIn X.K (.ref (G.fa g)) = true := by rw [c.K]; exact hM.kp
  -- the arguments, then the call
  have fin : ∀ (s2 : Shared) (us : List Value) (vs : List V) (m2 : List Addr) (H2 : Hp) (S2 : Store) (ds : List D), L2.Inv X pins σ H2 s2 → Vals vs us → Ext m1 H1 m2 H2 → RS G m2 H2 S2 → RepL G m2 H2 ds vs →
      (Fin G W σ (Rep G) m2 H2 ((csOf G.T n).fn g (d :: ds) S2) fun _ _ _ H' v => Q v H') → wpAny (model X.prog X.w) X.A (call (.ref (G.fa g)) (.ref A :: us)) (EP X pins σ Q) X.xe s2 := by
    intro s2 us vs m2 H2 S2 ds I2 rv x2 rs2 r2 q3
    rw [csOf_fn] at q3
    have rr : RepL G m2 H2 (d :: ds) (.ref A :: vs) := RepL.cons (Rep.mono x2 _ _ r1) r2
    have hb : run G.T n g (d :: ds) S2 ≠ .bad := fun e => by rw [e] at q3; exact q3.elim
    obtain ⟨F, eF, hF⟩ := run_len hb
    have rv2 : Vals (V.ref A :: vs) (Value.ref A :: us) := .cons rfl rv
    exact run_ev np c c.lv c.room hg (c.bind hd np hg (by rw [np g F eF, ← hF, rr.length, rv2.length]) (by rw [← c.K]; exact I2.kIn)) I2 rv2 rs2 rr q3
  cases es with
  | nil =>
    refine PySem.W.callWith_K0 (first := [.ref A]) I1.kIn hkp ?_
    have q0 : tL G W (evL (csOf G.T n) l) σ H1 fun vs H2 => vs = [] → ∃ m2 S2 ds, Ext m1 H1 m2 H2 ∧ RS G m2 H2 S2 ∧ RepL G m2 H2 ds vs ∧ Fin G W σ (Rep G) m2 H2 ((csOf G.T n).fn g (d :: ds) S2) fun _ _ _ H' v => Q v H' :=
      tX.go re1 rs1 q2 fun ds S2 m2 H2 vs x2 re2 rs2 r2 q3 => fun _ => ⟨m2, S2, ds, x2, rs2, r2, q3⟩
    obtain ⟨m2, S2, ds, x2, rs2, r2, q3⟩ := nil_of hl rfl q0 rfl
    exact fin s1 [] [] m2 H1 S2 ds I1 .nil x2 rs2 r2 q3
  | cons e0 es0 =>
    have hst := chkL_star _ _ _ hl
    have hs0 := hst
    simp only [List.all_cons, Bool.and_eq_true] at hs0
    refine PySem.W.callWith_K (first := [.ref A]) (h₀ := X.base) I1.ok.mod.kin hkp (thn (ha.run pos pins s1 σ H1 _ I1 (tX.go re1 rs1 q2 fun ds S2 m2 H2 vs x2 re2 rs2 r2 q3 => (⟨m2, S2, ds, x2, rs2, r2, q3⟩ : ∃ m2 S2 ds, Ext m1 H1 m2 H2 ∧ RS G m2 H2 S2 ∧ RepL G m2 H2 ds vs ∧ Fin G W σ (Rep G) m2 H2 ((csOf G.T n).fn g (d :: ds) S2) fun _ _ _ H' v => Q v H'))) fun us s2 hu => ?_) (star_of hs0.1) (any_star hs0.2)
    obtain ⟨vs, H2, I2, rv, m2, S2, ds, x2, rs2, r2, q3⟩ := hu
    exact ⟨I2.kIn, fin s2 us vs m2 H2 S2 ds I2 rv x2 rs2 r2 q3⟩
/-! #### built-in functions -/
theorem Ctx.blt (hd : Hd G) (c : Ctx G n X s W) {nm : Str} (h : nm ∈ bltL) : X.mg nm = none := by rw [c.mg]; exact hd.mgb nm h
theorem r_bi (hd : Hd G) (c : Ctx G n X s W) {bi : Bi} {k : Bool} (hg : gloB s bi.of = true) (hl : chkL G.M l s es = true) (ha : PA X es (tL G W (evL C l))) : PE X (.Call (.Name bi.of p) es [] pos) (tE G W (evE C (.bi bi k l))) := by
  obtain ⟨g1, g2, g3, g4, g5⟩ := c.glo hg
  have hm : X.mg bi.of = none := c.blt hd (by cases bi <;> decide)
  have imp : ∀ σ H Q, tE G W (evE C (.bi bi k l)) σ H Q → tCB (rBi G bi k) (tL G W (evL C l)) σ H Q := fun σ H Q ⟨m, ρ, S, re, rs, q⟩ => by
    simp only [evE] at q
    exact tX.go re rs q fun ds S1 m1 H1 vs x1 re1 rs1 r1 q1 => ⟨m1, S1, ds, rs1, r1, q1.toV (noEx_bi _ _ _ _)⟩
  cases es with
  | nil =>
    refine pe_bad fun σ H Q q => ?_
    have q2 := imp σ H Q q
    have q3 := nil_of (C := C) hl rfl q2
    obtain ⟨m, S, ds, rs, r, q4⟩ := q3
    cases ds with
    | nil => cases bi <;> exact q4.elim
    | cons d ds => simp [RepL] at r
  | cons e0 es0 =>
    have hst := chkL_star _ _ _ hl
    have hs0 := hst
    simp only [List.all_cons, Bool.and_eq_true] at hs0
    have hc := call_bi (G := G) (X := X) c.K c.calm bi k
    cases bi <;> first
      | exact pe_imp (pe_callB hc g1 hm (by rfl) ha g3 g2 (star_of hs0.1) (any_star hs0.2)) imp
      | exact pe_imp (pe_callTy hc g1 hm (by rfl) ha g3 g2 (star_of hs0.1) (any_star hs0.2)) imp
/-! #### isinstance -/
theorem pe_ty (hd : Hd G) (c : Ctx G n X s W) {t : Ty} (h : tyB G.M t s x = true) : PE X x (tC (t.val G)) ∧ noStar x = true := by
  unfold tyB at h
  split at h
  · simp only [Bool.and_eq_true] at h
    obtain ⟨h1, h2⟩ := h
    obtain ⟨g1, g2, g3, g4, g5⟩ := c.glo h1
    refine ⟨?_, rfl⟩
    split at h2
    · rename_i t
      simp only [decide_eq_true_eq] at h2
      subst h2
      have hm : X.mg t.of = none := c.blt hd (by cases t <;> decide)
      cases t <;> exact pe_bltn g1 hm (by rfl) rfl g3 g2
    · simp only [decide_eq_true_eq] at h2
      exact pe_glob g1 (by rw [c.mg]; exact (hd.cmg _ _ h2).2) rfl g2
  · cases h
def tTys (vs : List V) : TA := fun _ H Q => Q vs H
theorem pa_tys (hd : Hd G) (c : Ctx G n X s W) : ∀ {ts : List Ty} {es : List Expr}, tysB G.M s ts es = true → PA X es (tTys (ts.map fun t => t.val G)) ∧ es.length = ts.length
  | [], [], _ => ⟨pa_imp pa_nil fun _ _ _ q => q, rfl⟩
  | t :: ts, e :: es, h => by
    simp only [tysB, Bool.and_eq_true] at h
    obtain ⟨h1, h2⟩ := pe_ty hd c h.1
    obtain ⟨h3, h4⟩ := pa_tys hd c h.2
    exact ⟨pa_imp (pa_cons h1 h3 (star_of h2)) fun _ _ _ q => q, congrArg Nat.succ h4⟩
  | [], _ :: _, h => by simp [tysB] at h
  | _ :: _, [], h => by simp [tysB] at h
theorem paired_tys : ∀ (ts : List Ty), Paired ClsV (ts.map fun t => t.val G) (ts.map fun t => t.vlu G)
  | [] => .nil
  | t :: ts => .cons (ty_clsV t) (paired_tys ts)
theorem t_isI {ts : List Ty} {σ : L2.St} {H : Hp} {Q : VK} {pt : Bool} (h : tE G W (evE C (.isI a ts pt)) σ H Q) : tE G W (evE C a) σ H fun v H1 => ∃ m d S k, RS G m H1 S ∧ Rep G m H1 d v ∧ isAny C.T d S ts = some k ∧ (∀ m' H', Ext m H1 m' H' → RS G m' H' S → Q (.bl k) H') := by
  obtain ⟨m, ρ, S, re, rs, q⟩ := h
  simp only [evE] at q
  refine tX.go re rs q fun d S1 m1 H1 v1 x1 re1 rs1 r1 q1 => ?_
  obtain ⟨k, ek, q2⟩ := q1.at_o
  exact ⟨m1, d, S1, k, rs1, r1, ek, fun m' H' x' rs' => q2 m' H' _ x' rs' rep_bl⟩
theorem r_isI1 (hd : Hd G) (c : Ctx G n X s W) (hT : C.T = G.T) {t : Ty} (hg : gloB s "isinstance" = true) (ha : PE X x (tE G W (evE C a))) (hx : noStar x = true) (ht : tyB G.M t s y = true) : PE X (.Call (.Name "isinstance" p) [x, y] [] pos) (tE G W (evE C (.isI a [t] false))) := by
  obtain ⟨g1, g2, g3, g4, g5⟩ := c.glo hg
  obtain ⟨h1, h2⟩ := pe_ty hd c ht
  have pa : PA X [x, y] (tCons (tE G W (evE C a)) (tCons (tC (t.val G)) tNil)) := pa_cons ha (pa_cons h1 pa_nil (star_of h2)) (star_of hx)
  refine pe_imp (pe_callB (call_isi (X := X)) g1 (c.blt hd (by decide)) (by rfl) pa g3 g2 (star_of hx) (any_star (by simp [h2]))) fun σ H Q q => ?_
  obtain ⟨m, ρ, S, re, rs, q1⟩ := t_isI q
  refine ⟨m, ρ, S, re, rs, q1.imp ?_⟩
  rintro d0 S0 m0 H0 v x0 rs0 r0 ⟨m1, d, S1, k, rs1, r1, ek, fin⟩
  rw [hT] at ek
  refine ⟨v, t.val G, clV G d S1, t.vlu G, k, rfl, ty_clsV t, ?_, ?_, fin m1 H0 Ext.refl rs1⟩
  · rw [c.K]; exact isAny_tyx hd.cls rs1 r1 ek
  · rw [c.K]; exact isD_kit hd.cls (isAny_one ek)
theorem r_isIT (hd : Hd G) (c : Ctx G n X s W) (hT : C.T = G.T) {ts : List Ty} {tes : List Expr} {k2 : Nat} {p2 : Pos} (hg : gloB s "isinstance" = true) (ha : PE X x (tE G W (evE C a))) (hx : noStar x = true) (ht : tysB G.M s ts tes = true) (hz : ts.length ≤ sizeLine) (h0 : ts ≠ []) : PE X (.Call (.Name "isinstance" p) [x, .Tuple tes k2 p2] [] pos) (tE G W (evE C (.isI a ts true))) := by
  obtain ⟨g1, g2, g3, g4, g5⟩ := c.glo hg
  obtain ⟨h1, h2⟩ := pa_tys hd c ht
  have pa : PA X [x, .Tuple tes k2 p2] (tCons (tE G W (evE C a)) (tCons (tTup (tTys (ts.map fun t => t.val G))) tNil)) := pa_cons ha (pa_cons (pe_tup h1) pa_nil) (star_of hx)
  refine pe_imp (pe_callB (call_isiT (X := X)) g1 (c.blt hd (by decide)) (by rfl) pa g3 g2 (star_of hx) (any_star (by rfl))) fun σ H Q q => ?_
  obtain ⟨m, ρ, S, re, rs, q1⟩ := t_isI q
  refine ⟨m, ρ, S, re, rs, q1.imp ?_⟩
  rintro d0 S0 m0 H0 v x0 rs0 r0 ⟨m1, d, S1, k, rs1, r1, ek, fin⟩
  rw [hT] at ek
  refine ⟨by rw [List.length_map]; exact hz, fun tp htp => ?_⟩
  have xx : Ext m1 H0 m1 (upd H0 tp (.tup (ts.map fun t => t.val G))) := Ext.new htp
  have rs2 := rs1.new (o := .tup (ts.map fun t => t.val G)) htp
  refine ⟨v, tp, _, clV G d S1, ts.map (fun t => t.vlu G), k, rfl, upd_same, paired_tys ts, ?_, ?_, fin m1 _ xx rs2⟩
  · rw [c.K]
    cases ts with
    | nil => exact absurd rfl h0
    | cons t ts => exact isAny_tyx hd.cls rs2 (Rep.mono xx _ _ r1) ek
  · rw [c.K]; exact isAny_kit hd.cls ek
/-! #### methods of built-in types -/
theorem r_bm1 {b : Bm} {T id : String} (hl : chkL G.M l s es = true) (ho : PE X x (tE G W (evE C a))) (hs : noSup x = true) (ha : PA X es (tL G W (evL C l))) (c : Ctx G n X s W)
    (hz : es.length < 20) (hp : (apos.endLine == pos.line) = true) (hT : T = b.ty) (hid : id = b.id) (pa : PlainAttrs T) (slot : Slot T b.of id) (hty : typeOf (.builtin id) = pure (.type "method_descriptor")) : PE X (.Call (.Attribute x b.of apos) es [] pos) (tE G W (evE C (.bm b a l))) := by
  subst hT hid
  have hm := mt_bm (G := G) (X := X) b
  cases es with
  | nil =>
    refine pe_imp (pe_bm0 pa slot hty hm ho (base_of hs) hp) fun σ H Q ⟨m, ρ, S, re, rs, q⟩ => ?_
    simp only [evE] at q
    refine tX.go re rs q fun d S1 m1 H1 v x1 re1 rs1 r1 q1 => ?_
    split at q1
    · rename_i hok
      have q2 : tL G W (evL C l) σ H1 fun xs H' => xs = [] → _ := tX.go re1 rs1 q1 fun ds S2 m2 H2 vs x2 re2 rs2 r2 q3 => fun _ => (⟨m2, S2, ds, x2, rs2, r2, q3⟩ : ∃ m2 S2 ds, Ext m1 H1 m2 H2 ∧ RS G m2 H2 S2 ∧ RepL G m2 H2 ds vs ∧ Fin G W σ (Rep G) m2 H2 (bmD b d ds S2) fun _ _ _ H' v => Q v H')
      obtain ⟨m2, S2, ds, x2, rs2, r2, q3⟩ := nil_of hl rfl q2 rfl
      exact ⟨bm_ty rs1 r1 hok, m2, S2, d, ds, rs2, Rep.mono x2 _ _ r1, r2, q3.toV (noEx_bm _ _ _ _)⟩
    · exact q1.elim
  | cons e0 es0 =>
    have hst := chkL_star _ _ _ hl
    have hs0 := hst
    simp only [List.all_cons, Bool.and_eq_true] at hs0
    have hall : ∀ {es : List Expr} {env : Env}, es.all noStar = true → (backTo pos (starEach es env)).all (fun x => !x.1) = true := fun {es env} h0 => by
      have h := any_star (env := env) (pos := pos) h0
      generalize backTo pos (starEach es env) = l at h
      induction l with
      | nil => rfl
      | cons a l ih =>
        simp only [List.any_cons, Bool.or_eq_false_iff] at h
        simp only [List.all_cons, Bool.and_eq_true, Bool.not_eq_true']
        exact ⟨h.1, ih h.2⟩
    have hfew : ((backTo pos (starEach (e0 :: es0) X.env)).all (fun x => !x.1) && (backToKw pos (keywordEach [] X.env)).all (fun x => x.1.isSome)
      && decide ((e0 :: es0).length + ([] : List Keyword).length + (if ([] : List Keyword).isEmpty then 0 else 1) < 30)) = true := by
      rw [hall hst]
      show (true && true && _) = true
      simp only [Bool.true_and, List.length_nil, List.isEmpty_nil, if_true, Nat.add_zero, decide_eq_true_eq]
      omega
    refine pe_imp (pe_bm pa slot hty hm ho ha (base_of hs) hfew hp (star_of hs0.1) (any_star hs0.2)) fun σ H Q ⟨m, ρ, S, re, rs, q⟩ => ?_
    simp only [evE] at q
    refine tX.go re rs q fun d S1 m1 H1 v x1 re1 rs1 r1 q1 => ?_
    split at q1
    · rename_i hok
      exact ⟨bm_ty rs1 r1 hok, tX.go re1 rs1 q1 fun ds S2 m2 H2 vs x2 re2 rs2 r2 q3 => ⟨m2, S2, d, ds, rs2, Rep.mono x2 _ _ r1, r2, q3.toV (noEx_bm _ _ _ _)⟩⟩
    · exact q1.elim
theorem r_bm (c : Ctx G n X s W) {b : Bm} (hl : chkL G.M l s es = true) (ho : PE X x (tE G W (evE C a))) (hs : noSup x = true) (ha : PA X es (tL G W (evL C l)))
    (hz : es.length < 20) (hp : (apos.endLine == pos.line) = true) : PE X (.Call (.Attribute x b.of apos) es [] pos) (tE G W (evE C (.bm b a l))) := by
  cases b with
  | append => exact r_bm1 hl ho hs ha c hz hp rfl rfl F.plainAttrs_list F.slot_list_append F.type_list_append
  | pop => exact r_bm1 hl ho hs ha c hz hp rfl rfl F.plainAttrs_list F.slot_list_pop F.type_list_pop
  | extend => exact r_bm1 hl ho hs ha c hz hp rfl rfl F.plainAttrs_list F.slot_list_extend F.type_list_extend
  | index => exact r_bm1 hl ho hs ha c hz hp rfl rfl F.plainAttrs_list F.slot_list_index F.type_list_index
  | bitLength => exact r_bm1 hl ho hs ha c hz hp rfl rfl F.plainAttrs_int F.slot_int_bit_length F.type_int_bit_length
end
end Ev
end
section
set_option maxRecDepth 100000
set_option maxHeartbeats 4000000
/-! Ev, part 13: what is walked; targets; comprehensions. -/
namespace Ev
open PySem PySem.Spec PyProof.Rows L2
/-- J yields ds, one behind another, as long as the cells of g stand -/
def RY (G : Pg) (m0 : List Addr) (H0 : Hp) (p : List D × Gd) (J : It) : Prop := ∀ m H S, Ext m0 H0 m H → RS G m H S → gOk p.2 S = true → ∀ i,
  (∀ d, p.1[i]? = some d → J.go i H ∧ ∀ x H', J.yld i H x H' → Ext m H m H' ∧ RS G m H' S ∧ Rep G m H' d x) ∧ (p.1.length = i → J.stop i H)
def LstAt (G : Pg) (m0 : List Addr) (H0 : Hp) (g : Gd) (l : List D) (p : Addr) : Prop := ∀ m H S, Ext m0 H0 m H → RS G m H S → gOk g S = true → ∃ vs, Rd H p (.lst vs) ∧ RepL G m H l vs
def TupAt (G : Pg) (m0 : List Addr) (H0 : Hp) (l : List D) (p : Addr) : Prop := ∀ m H, Ext m0 H0 m H → ∃ vs, SqT G.K H p vs ∧ RepL G m H l vs
section
variable {G : Pg} {m m' : List Addr} {H H' : Hp} {S : Store}
theorem gOk_app {g k : Gd} {S : Store} : gOk (g ++ k) S = true ↔ gOk g S = true ∧ gOk k S = true := by
  unfold gOk
  simp only [decide_eq_true_eq, List.mem_append]
  constructor
  · intro h
    exact ⟨fun p hp => h p (.inl hp), fun p hp => h p (.inr hp)⟩
  · rintro ⟨h1, h2⟩ p (hp | hp)
    · exact h1 p hp
    · exact h2 p hp
theorem lstAt_of {d : D} {v : V} {l : List D} {g : Gd} (hg : ∀ S', gOk g S' = true → gOk (guard d S) S' = true) (rs : RS G m H S) (r : Rep G m H d v) (e : lstOf d S = some l) : ∃ p, v = .ref p ∧ LstAt G m H g l p := by
  obtain ⟨p, vs, rfl, hp, rl⟩ := lstOf_sq rs r e
  refine ⟨p, rfl, fun m' H' S' x rs' h => ?_⟩
  have h2 := hg S' h
  have r' := Rep.mono x _ _ r
  have e' : lstOf d S' = some l := by
    unfold lstOf at e ⊢
    split at e
    · exact e
    · rename_i n
      split at e
      · rename_i l' es
        cases e
        unfold gOk at h2
        simp only [decide_eq_true_eq] at h2
        simp only [guard, es, List.mem_singleton, forall_eq] at h2
        simp only [h2]
      · cases e
    · cases e
  obtain ⟨p', vs', ep, hp', rl'⟩ := lstOf_sq rs' r' e'
  cases ep
  exact ⟨vs', hp', rl'⟩
theorem tupAt_of {l : List D} {v : V} (r : Rep G m H (.tup l) v) : ∃ p, v = .ref p ∧ TupAt G m H l p := by
  obtain ⟨p, vs, rfl, f, rl⟩ := r.tup_inv
  exact ⟨p, rfl, fun m' H' x => ⟨vs, (f.mono x).sq, RepL.mono x _ _ rl⟩⟩
theorem LstAt.now {g : Gd} {l : List D} {p : Addr} (h : LstAt G m H g l p) (rs : RS G m H S) (k : gOk g S = true) : ∃ vs, Rd H p (.lst vs) ∧ RepL G m H l vs := h m H S Ext.refl rs k
theorem vget {l : List D} {vs : List V} {i : Nat} {d : D} {x : V} (r : RepL G m H l vs) (e : l[i]? = some d) (h : vs[i]? = some x) : Rep G m H d x := by
  obtain ⟨v, hv, q⟩ := r.get e
  rw [h] at hv; cases hv
  exact q
theorem ry_lst {g : Gd} {l : List D} {p : Addr} (h : LstAt G m H g l p) : RY G m H (l, g) (Itl G.K p) := fun m' H' S' x rs k i => by
  obtain ⟨vs, hp, r⟩ := h m' H' S' x rs k
  refine ⟨fun d hd => ?_, fun hi => ⟨vs, sq_of hp, by rw [← r.length]; exact Nat.le_of_eq hi⟩⟩
  obtain ⟨v, hv, q⟩ := r.get hd
  refine ⟨⟨vs, v, sq_of hp, hv⟩, fun y H2 hy => ?_⟩
  obtain ⟨rfl, hy⟩ := hy
  exact ⟨Ext.refl, rs, vget r hd (hy vs (sq_of hp))⟩
theorem ry_tup {g : Gd} {l : List D} {p : Addr} (h : TupAt G m H l p) : RY G m H (l, g) (Itt G.K p) := fun m' H' S' x rs k i => by
  obtain ⟨vs, hp, r⟩ := h m' H' x
  refine ⟨fun d hd => ?_, fun hi => ⟨vs, hp, by rw [← r.length]; exact Nat.le_of_eq hi⟩⟩
  obtain ⟨v, hv, q⟩ := r.get hd
  refine ⟨⟨vs, v, hp, hv⟩, fun y H2 hy => ?_⟩
  obtain ⟨rfl, hy⟩ := hy
  exact ⟨Ext.refl, rs, vget r hd (hy vs hp)⟩
theorem ry_str {s : List Nat} : RY G m H (s.map fun c => D.str [c], []) (Its ⟨s.toArray⟩) := fun m' H' S' x rs k i => by
  refine ⟨fun d hd => ?_, fun hi => ?_⟩
  · simp only [List.getElem?_map] at hd
    cases e : s[i]? with
    | none => rw [e] at hd; cases hd
    | some c =>
      rw [e] at hd
      cases hd
      have hl := (List.getElem?_eq_some_iff.mp e).1
      refine ⟨?_, fun y H2 hy => ?_⟩
      · show i < s.toArray.size
        simpa using hl
      · obtain ⟨rfl, c', hc, rfl⟩ := hy
        have hc : s.toArray[i]? = some c' := hc
        simp only [List.getElem?_toArray] at hc
        rw [e] at hc; cases hc
        exact ⟨Ext.refl, rs, rep_str⟩
  · show s.toArray.size ≤ i
    simp only [List.length_map] at hi
    simp [hi]
theorem upTo_get : ∀ (n : Nat) (lo : Int) (i : Nat), (upTo lo n)[i]? = if i < n then some (.int (lo + i)) else none
  | 0, _, _ => by simp [upTo]
  | n + 1, lo, 0 => by simp [upTo]
  | n + 1, lo, i + 1 => by
    simp only [upTo, List.getElem?_cons_succ, upTo_get n (lo + 1) i, Nat.add_lt_add_iff_right]
    split
    · congr 2; push_cast; omega
    · rfl
theorem upTo_len : ∀ (n : Nat) (lo : Int), (upTo lo n).length = n
  | 0, _ => rfl
  | n + 1, lo => congrArg Nat.succ (upTo_len n (lo + 1))
theorem ry_rng {lo : Int} {n : Nat} {g : Gd} : RY G m H (upTo lo n, g) (Itr lo n) := fun m' H' S' x rs k i => by
  refine ⟨fun d hd => ?_, fun hi => ?_⟩
  · simp only [upTo_get] at hd
    split at hd
    · rename_i hl
      cases hd
      refine ⟨hl, fun y H2 hy => ?_⟩
      obtain ⟨rfl, rfl⟩ := hy
      exact ⟨Ext.refl, rs, rep_int⟩
    · cases hd
  · simp only [upTo_len] at hi
    show n ≤ i
    omega
theorem dnTo_get : ∀ (n : Nat) (lo : Int) (i : Nat), (dnTo lo n)[i]? = if i < n then some (.int (lo + (i : Nat) * (-1))) else none
  | 0, _, _ => by simp [dnTo]
  | n + 1, lo, 0 => by simp [dnTo]
  | n + 1, lo, i + 1 => by
    simp only [dnTo, List.getElem?_cons_succ, dnTo_get n (lo - 1) i, Nat.add_lt_add_iff_right]
    split
    · congr 2; push_cast; omega
    · rfl
theorem dnTo_len : ∀ (n : Nat) (lo : Int), (dnTo lo n).length = n
  | 0, _ => rfl
  | n + 1, lo => congrArg Nat.succ (dnTo_len n (lo - 1))
theorem ry_rngD {lo : Int} {n : Nat} {g : Gd} : RY G m H (dnTo lo n, g) (Itc lo (-1) n) := fun m' H' S' x rs k i => by
  refine ⟨fun d hd => ?_, fun hi => ?_⟩
  · simp only [dnTo_get] at hd
    split at hd
    · rename_i hl
      cases hd
      refine ⟨hl, fun y H2 hy => ?_⟩
      obtain ⟨rfl, rfl⟩ := hy
      exact ⟨Ext.refl, rs, rep_int⟩
    · cases hd
  · simp only [dnTo_len] at hi
    show n ≤ i
    omega
theorem enmL_get : ∀ (l : List D) (k : Int) (i : Nat) {d : D}, (enmL k l)[i]? = some d → ∃ e, l[i]? = some e ∧ d = .tup [.int (k + i), e]
  | [], _, _, _, h => by simp [enmL] at h
  | e :: l, k, 0, d, h => by
    simp [enmL] at h
    exact ⟨e, rfl, by simp [← h]⟩
  | e :: l, k, i + 1, d, h => by
    simp only [enmL, List.getElem?_cons_succ] at h
    obtain ⟨z, e1, e2⟩ := enmL_get l (k + 1) i h
    refine ⟨z, by simpa using e1, ?_⟩
    rw [e2]
    congr 3
    push_cast; omega
theorem enmL_len : ∀ (l : List D) (k : Int), (enmL k l).length = l.length
  | [], _ => rfl
  | _ :: l, k => congrArg Nat.succ (enmL_len l (k + 1))
/-- a new pair -/
theorem pair_new {T : Addr} {d e : D} {x y : V} (rs : RS G m H S) (hT : H T = none) (r1 : Rep G m H d x) (r2 : Rep G m H e y) : Ext m H m (upd H T (.tup [x, y])) ∧ RS G m (upd H T (.tup [x, y])) S ∧ Rep G m (upd H T (.tup [x, y])) (.tup [d, e]) (.ref T) := by
  have xx : Ext m H m (upd H T (.tup [x, y])) := Ext.new hT
  exact ⟨xx, rs.new hT, rep_tup (.inl ⟨rs.fresh hT, .inl upd_same⟩) (RepL.mono xx _ _ (RepL.cons r1 (RepL.cons r2 RepL.nil)))⟩
theorem ry_enm {g : Gd} {l : List D} {p : Addr} (h : LstAt G m H g l p) : RY G m H (enmL 0 l, g) (Ite G.K p) := fun m' H' S' x rs k i => by
  obtain ⟨vs, hp, r⟩ := h m' H' S' x rs k
  refine ⟨fun d hd => ?_, fun hi => ⟨vs, sq_of hp, by rw [← r.length, ← enmL_len l 0]; exact Nat.le_of_eq hi⟩⟩
  obtain ⟨e, he, rfl⟩ := enmL_get l 0 i hd
  obtain ⟨v, hv, q⟩ := r.get he
  refine ⟨⟨vs, v, sq_of hp, hv⟩, fun y H2 hy => ?_⟩
  obtain ⟨T, z, rfl, hT, rfl, hz⟩ := hy
  have e0 : (0 : Int) + (i : Int) = ((i : Nat) : Int) := by omega
  rw [e0]
  exact pair_new rs hT rep_int (vget r he (hz vs (sq_of hp)))
theorem ry_enmT {g : Gd} {l : List D} {p : Addr} (h : TupAt G m H l p) : RY G m H (enmL 0 l, g) (Itet G.K p) := fun m' H' S' x rs k i => by
  obtain ⟨vs, hp, r⟩ := h m' H' x
  refine ⟨fun d hd => ?_, fun hi => ⟨vs, hp, by rw [← r.length, ← enmL_len l 0]; exact Nat.le_of_eq hi⟩⟩
  obtain ⟨e, he, rfl⟩ := enmL_get l 0 i hd
  obtain ⟨v, hv, q⟩ := r.get he
  refine ⟨⟨vs, v, hp, hv⟩, fun y H2 hy => ?_⟩
  obtain ⟨T, z, rfl, hT, rfl, hz⟩ := hy
  have e0 : (0 : Int) + (i : Int) = ((i : Nat) : Int) := by omega
  rw [e0]
  exact pair_new rs hT rep_int (vget r he (hz vs hp))
theorem zip_get {l k : List D} {i : Nat} {d : D} (h : ((l.zip k).map fun p => D.tup [p.1, p.2])[i]? = some d) : ∃ a b, l[i]? = some a ∧ k[i]? = some b ∧ d = .tup [a, b] := by
  simp only [List.getElem?_map, Option.map_eq_some_iff] at h
  obtain ⟨⟨a, b⟩, h1, h2⟩ := h
  rw [List.getElem?_zip_eq_some] at h1
  exact ⟨a, b, h1.1, h1.2, h2.symm⟩
theorem zip_end {l k : List D} {vs us : List V} {i : Nat} (r : RepL G m H l vs) (q : RepL G m H k us) (h : ((l.zip k).map fun p => D.tup [p.1, p.2]).length = i) : vs.length ≤ i ∨ us.length ≤ i := by
  simp only [List.length_map, List.length_zip] at h
  rw [← r.length, ← q.length]
  omega
theorem ry_zip {g : Gd} {l k : List D} {p q : Addr} (h1 : LstAt G m H g l p) (h2 : LstAt G m H g k q) : RY G m H ((l.zip k).map fun p => D.tup [p.1, p.2], g) (Itz G.K p q) := fun m' H' S' x rs kk i => by
  obtain ⟨vs, hp, r⟩ := h1 m' H' S' x rs kk
  obtain ⟨us, hq, r2⟩ := h2 m' H' S' x rs kk
  refine ⟨fun d hd => ?_, fun hi => ⟨vs, us, sq_of hp, sq_of hq, zip_end r r2 hi⟩⟩
  obtain ⟨a, b, ha, hb, rfl⟩ := zip_get hd
  obtain ⟨v, hv, _⟩ := r.get ha
  obtain ⟨u, hu, _⟩ := r2.get hb
  refine ⟨⟨vs, us, v, u, sq_of hp, sq_of hq, hv, hu⟩, fun y H2 hy => ?_⟩
  obtain ⟨T, z, w, rfl, hT, rfl, hz, hw⟩ := hy
  exact pair_new rs hT (vget r ha (hz vs (sq_of hp))) (vget r2 hb (hw us (sq_of hq)))
theorem ry_zipT {g : Gd} {l k : List D} {p q : Addr} (h1 : TupAt G m H l p) (h2 : TupAt G m H k q) : RY G m H ((l.zip k).map fun p => D.tup [p.1, p.2], g) (RZ.ItzT G.K p q) := fun m' H' S' x rs kk i => by
  obtain ⟨vs, hp, r⟩ := h1 m' H' x
  obtain ⟨us, hq, r2⟩ := h2 m' H' x
  refine ⟨fun d hd => ?_, fun hi => ⟨vs, us, hp, hq, zip_end r r2 hi⟩⟩
  obtain ⟨a, b, ha, hb, rfl⟩ := zip_get hd
  obtain ⟨v, hv, _⟩ := r.get ha
  obtain ⟨u, hu, _⟩ := r2.get hb
  refine ⟨⟨vs, us, v, u, hp, hq, hv, hu⟩, fun y H2 hy => ?_⟩
  obtain ⟨T, z, w, rfl, hT, rfl, hz, hw⟩ := hy
  exact pair_new rs hT (vget r ha (hz vs hp)) (vget r2 hb (hw us hq))
theorem rev_ix {l : List D} {i : Nat} {d : D} (h : l.reverse[i]? = some d) : i < l.length ∧ l[l.length - 1 - i]? = some d := by
  have hl : i < l.length := by
    have := (List.getElem?_eq_some_iff.mp h).1
    simpa using this
  rw [List.getElem?_reverse hl] at h
  exact ⟨hl, h⟩
theorem ry_rev {g : Gd} {l : List D} {p : Addr} (h : LstAt G m H g l p) : RY G m H (l.reverse, g) (Itv G.K p l.length) := fun m' H' S' x rs k i => by
  obtain ⟨vs, hp, r⟩ := h m' H' S' x rs k
  refine ⟨fun d hd => ?_, fun hi => ?_⟩
  · obtain ⟨hl, hd⟩ := rev_ix hd
    obtain ⟨v, hv, q⟩ := r.get hd
    refine ⟨⟨hl, vs, v, sq_of hp, hv⟩, fun y H2 hy => ?_⟩
    obtain ⟨rfl, hy⟩ := hy
    exact ⟨Ext.refl, rs, vget r hd (hy vs (sq_of hp))⟩
  · simp only [List.length_reverse] at hi
    exact Nat.le_of_eq hi
theorem ry_revT {g : Gd} {l : List D} {p : Addr} (h : TupAt G m H l p) : RY G m H (l.reverse, g) (RT.ItvT G.K p l.length) := fun m' H' S' x rs k i => by
  obtain ⟨vs, hp, r⟩ := h m' H' x
  refine ⟨fun d hd => ?_, fun hi => ?_⟩
  · obtain ⟨hl, hd⟩ := rev_ix hd
    obtain ⟨v, hv, q⟩ := r.get hd
    refine ⟨⟨hl, vs, v, hp, hv⟩, fun y H2 hy => ?_⟩
    obtain ⟨rfl, hy⟩ := hy
    exact ⟨Ext.refl, rs, vget r hd (hy vs hp)⟩
  · simp only [List.length_reverse] at hi
    exact Nat.le_of_eq hi
end
/-! #### a list, a tuple or a text -/
def iAny (K : PySem.W.Frag) (te : TE) : TI := fun σ H R => te σ H fun x H1 => (∃ a, x = .ref a ∧ (∃ xs, SqL K H1 a xs) ∧ R (Itl K a) H1) ∨ (∃ a, x = .ref a ∧ (∃ xs, SqT K H1 a xs) ∧ R (Itt K a) H1) ∨ ∃ z, x = .str z ∧ R (Its z) H1
section
variable {X : Cx} {tg e : Expr} {te : TE}
theorem pi_any (he : PE X e te) : PI X tg e (iAny X.K te) := by
  refine ⟨fun pins st σ H R I h => ?_⟩
  refine thn (he.run pins st σ H _ I h) fun v s1 ⟨x, H1, I1, r1, q1⟩ => ?_
  rcases q1 with ⟨a, rfl, ⟨xs, hq⟩, q⟩ | ⟨a, rfl, ⟨xs, hq⟩, q⟩ | ⟨z, rfl, q⟩
  · obtain rfl : v = Value.ref a := r1
    obtain ⟨its, rv, at_, _⟩ := I1.list hq
    exact wpAny_pyIter_list at_.isList (pi_one (tk := s1.toks) I1 _ (turn_list a _) ⟨_, Heap.get?_push_size _ rfl, rfl, rfl⟩ q)
  · obtain rfl : v = Value.ref a := r1
    obtain ⟨its, rv, at_, _⟩ := I1.tuple hq
    exact wpAny_pyIter_tuple (show s1.heap.IsTuple a its.toArray from at_) (pi_one (tk := s1.toks) I1 _ (turn_tuple a _) ⟨_, Heap.get?_push_size _ rfl, rfl, rfl⟩ q)
  · obtain ⟨t, rfl⟩ := r1
    cases ha : z.cps.all (· < 128)
    · exact wpAny_pyIter_wide ha (pi_one (tk := s1.toks) I1 _ (turn_str _ z t _ (.inr rfl)) ⟨_, Heap.get?_push_size _ rfl, rfl, rfl⟩ q)
    · exact wpAny_pyIter_ascii ha (pi_one (tk := s1.toks) I1 _ (turn_str _ z t _ (.inl rfl)) ⟨_, Heap.get?_push_size _ rfl, rfl, rfl⟩ q)
theorem pi_imp {t t' : TI} (h : PI X tg e t) (i : ∀ σ H R, t' σ H R → t σ H R) : PI X tg e t' := ⟨fun pins s σ H R I q => h.run pins s σ H R I (i σ H R q)⟩
end
abbrev tW (G : Pg) (W : WX) (ev : Fr → Store → Rs (List D × Gd)) : TI := tX G W (RY G) ev
section
variable {G : Pg} {n : Nat} {X : Cx} {s : Sx} {W : WX} {C : Cs} {tg e x y z : Expr} {p pos : Pos} {a b : Ex} {es : List Expr} {l : Exs}
theorem w_seq (c : Ctx G n X s W) (ha : PE X x (tE G W (evE C a))) : PI X tg x (tW G W (evW C (.seq a))) :=
  pi_imp (pi_any ha) fun σ H R ⟨m, ρ, S, re, rs, q⟩ => by
    simp only [evW] at q
    refine tX.go re rs q fun d S1 m1 H1 v1 x1 re1 rs1 r1 q1 => ?_
    rw [c.K]
    unfold seqIt at q1
    split at q1
    · exact .inr (.inr ⟨_, r1.str_inv, q1 m1 H1 _ Ext.refl rs1 ry_str⟩)
    · split at q1
      · rename_i l e
        cases d with
        | tup k =>
          cases e
          obtain ⟨A, rfl, h⟩ := tupAt_of r1
          obtain ⟨vs, hv, _⟩ := h m1 H1 Ext.refl
          exact .inr (.inl ⟨A, rfl, ⟨vs, hv⟩, q1 m1 H1 _ Ext.refl rs1 (ry_tup h)⟩)
        | lst k =>
          obtain ⟨A, rfl, h⟩ := lstAt_of (g := guard (.lst k) S1) (fun _ q => q) rs1 r1 (show lstOf (.lst k) S1 = some l from e)
          obtain ⟨vs, hv, _⟩ := h.now rs1 (by rfl)
          exact .inl ⟨A, rfl, ⟨vs, sq_of hv⟩, q1 m1 H1 _ Ext.refl rs1 (ry_lst h)⟩
        | ref k =>
          obtain ⟨A, vs, rfl, hv, rl⟩ := lstOf_sq rs1 r1 (show lstOf (.ref k) S1 = some l from e)
          obtain ⟨A', eA, h⟩ := lstAt_of (g := guard (.ref k) S1) (fun _ q => q) rs1 r1 (show lstOf (.ref k) S1 = some l from e)
          cases eA
          exact .inl ⟨A, rfl, ⟨vs, sq_of hv⟩, q1 m1 H1 _ Ext.refl rs1 (ry_lst h)⟩
        | _ => cases e
      · exact q1.elim
theorem int62 {j : Int} (h : j ≤ LIM) : j < 2 ^ 62 := by
  unfold LIM at h
  omega
end
end Ev
end
section
set_option maxRecDepth 100000
set_option maxHeartbeats 4000000
/-! Ev, part 14: more of what is walked; targets; comprehensions. -/
namespace Ev
open PySem PySem.Spec PyProof.Rows L2
section
variable {G : Pg} {n : Nat} {X : Cx} {s : Sx} {W : WX} {C : Cs} {tg e x y z : Expr} {p pos : Pos} {a b : Ex} {es : List Expr} {l : Exs}
theorem folded_of {e : Expr} {env : Env} (h : noSet e = true) (x : Value) : foldedSetIterable e env x = pure x := by
  cases e <;> first | rfl | (simp [noSet] at h)
theorem rng_cases {ds : List D} {S : Store} {σ : L2.St} {m : List Addr} {H : Hp} {R : It → Hp → Prop} (q : Fin G W σ (RY G) m H (rngIt ds S) fun _ _ _ H' v => R v H') :
    (∃ j : Int, ds = [.int j] ∧ j ≤ LIM ∧ -(LIM : Int) ≤ j ∧ Fin G W σ (RY G) m H (.ok (upTo 0 j.toNat, []) S) fun _ _ _ H' v => R v H') ∨
      (∃ i j : Int, ds = [.int i, .int j] ∧ i.natAbs < 2 ^ 61 ∧ j.natAbs < 2 ^ 61 ∧ Fin G W σ (RY G) m H (.ok (upTo i (j - i).toNat, []) S) fun _ _ _ H' v => R v H') ∨
      ∃ i j : Int, ds = [.int i, .int j, .int (-1)] ∧ i.natAbs < 2 ^ 61 ∧ j.natAbs < 2 ^ 61 ∧ Fin G W σ (RY G) m H (.ok (dnTo i (i - j).toNat, []) S) fun _ _ _ H' v => R v H' := by
  unfold rngIt at q
  split at q
  · split at q
    · rename_i h
      exact .inl ⟨_, rfl, h.1, h.2, q⟩
    · exact q.elim
  · split at q
    · rename_i h
      exact .inr (.inl ⟨_, _, rfl, h.2.1, h.2.2, q⟩)
    · exact q.elim
  · split at q
    · rename_i h
      obtain ⟨h1, h2, h3, h4⟩ := h
      subst h1
      exact .inr (.inr ⟨_, _, rfl, h3, h4, q⟩)
    · exact q.elim
  · exact q.elim
theorem three_inv {d e f : D} {m : List Addr} {H : Hp} {vs : List V} (r : RepL G m H [d, e, f] vs) : ∃ v u w, vs = [v, u, w] ∧ Rep G m H d v ∧ Rep G m H e u ∧ Rep G m H f w := by
  simp only [RepL] at r
  obtain ⟨v, us, rfl, r1, u, ws, rfl, r2, w, zs, rfl, r3, rfl⟩ := r
  exact ⟨v, u, w, rfl, r1, r2, r3⟩
theorem w_rng (hd : Hd G) (c : Ctx G n X s W) (hg : gloB s "range" = true) (hl : chkL G.M l s es = true) (hz : (es.length = 1 ∨ es.length = 2) ∨ es.length = 3) (ha : PA X es (tL G W (evL C l))) : PI X tg (.Call (.Name "range" p) es [] pos) (tW G W (evW C (.rng l))) := by
  obtain ⟨g1, g2, g3, g4, g5⟩ := c.glo hg
  have hm : X.mg "range" = none := c.blt hd (by decide)
  have hst := chkL_star _ _ _ hl
  have main : ∀ {σ H R}, tW G W (evW C (.rng l)) σ H R → tL G W (evL C l) σ H fun vs H1 => vs.length = es.length ∧ ((∃ j : Int, vs = [.int j] ∧ -(2 ^ 62) ≤ j ∧ j < 2 ^ 62 ∧ R (Itr 0 j.toNat) H1) ∨ (∃ i j : Int, vs = [.int i, .int j] ∧ (-(2 ^ 62) ≤ i ∧ i < 2 ^ 62 ∧ -(2 ^ 62) ≤ j ∧ j < 2 ^ 62) ∧ R (Itr i (j - i).toNat) H1) ∨ ∃ i j : Int, vs = [.int i, .int j, .int (-1)] ∧ (-(2 ^ 62) ≤ i ∧ i < 2 ^ 62 ∧ -(2 ^ 62) ≤ j ∧ j < 2 ^ 62) ∧ R (Itc i (-1) (i - j).toNat) H1) := fun {σ H R} ⟨m, ρ, S, re, rs, q⟩ => by
    simp only [evW] at q
    refine len_of hl (tX.go re rs q fun ds S1 m1 H1 vs x1 re1 rs1 r1 q1 => ?_)
    rcases rng_cases q1 with ⟨j, rfl, h1, h2, q2⟩ | ⟨i, j, rfl, h1, h2, q2⟩ | ⟨i, j, rfl, h1, h2, q2⟩
    · obtain ⟨v, rfl, rv⟩ := one_inv r1
      unfold LIM at h1 h2
      exact .inl ⟨j, by rw [rv.int_inv], by omega, by omega, q2 m1 H1 _ Ext.refl rs1 ry_rng⟩
    · obtain ⟨v, u, rfl, rv, ru⟩ := two_inv r1
      exact .inr (.inl ⟨i, j, by rw [rv.int_inv, ru.int_inv], by omega, q2 m1 H1 _ Ext.refl rs1 ry_rng⟩)
    · obtain ⟨v, u, w, rfl, rv, ru, rw_⟩ := three_inv r1
      exact .inr (.inr ⟨i, j, by rw [rv.int_inv, ru.int_inv, rw_.int_inv], by omega, q2 m1 H1 _ Ext.refl rs1 ry_rngD⟩)
  rcases hz with (hz | hz) | hz
  · obtain ⟨x, rfl⟩ := List.length_eq_one_iff.mp hz
    simp only [List.all_cons, Bool.and_eq_true] at hst
    refine pi_imp (pi_range1 g1 hm ha (star_of hst.1)) fun σ H R q => ?_
    obtain ⟨m, ρ, S, re, rs, q1⟩ := main q
    refine ⟨m, ρ, S, re, rs, q1.imp ?_⟩
    rintro d0 S0 m0 H0 vs _ _ _ ⟨hlen, h | ⟨i, j, rfl, _⟩ | ⟨i, j, rfl, _⟩⟩
    · exact h
    · cases hlen
    · cases hlen
  · obtain ⟨x, y, rfl⟩ : ∃ x y, es = [x, y] := by
      match es, hz with
      | [x, y], _ => exact ⟨x, y, rfl⟩
    simp only [List.all_cons, Bool.and_eq_true] at hst
    refine pi_imp (pi_range2 g1 hm ha (by rw [star_of hst.1, star_of hst.2.1]; rfl) (star_of hst.2.1)) fun σ H R q => ?_
    obtain ⟨m, ρ, S, re, rs, q1⟩ := main q
    refine ⟨m, ρ, S, re, rs, q1.imp ?_⟩
    rintro d0 S0 m0 H0 vs _ _ _ ⟨hlen, ⟨j, rfl, _⟩ | h | ⟨i, j, rfl, _⟩⟩
    · cases hlen
    · exact h
    · cases hlen
  · obtain ⟨x, y, z, rfl⟩ : ∃ x y z, es = [x, y, z] := by
      match es, hz with
      | [x, y, z], _ => exact ⟨x, y, z, rfl⟩
    simp only [List.all_cons, Bool.and_eq_true] at hst
    refine pi_imp (pi_range3 g1 hm ha (star_of hst.1) (any_star (by simp [hst.2.1, hst.2.2.1]))) fun σ H R q => ?_
    obtain ⟨m, ρ, S, re, rs, q1⟩ := main q
    refine ⟨m, ρ, S, re, rs, q1.imp ?_⟩
    rintro d0 S0 m0 H0 vs _ _ _ ⟨hlen, ⟨j, rfl, _⟩ | ⟨i, j, rfl, _⟩ | ⟨i, j, rfl, hb, h⟩⟩
    · cases hlen
    · cases hlen
    · exact ⟨i, j, -1, _, rfl, RgC.neg hb.1 hb.2.1 hb.2.2.1 hb.2.2.2, h⟩
theorem guard_nil {S : Store} : gOk [] S = true := by
  unfold gOk
  simp
theorem w_enm (hd : Hd G) (c : Ctx G n X s W) {elts : List Expr} {kk : Nat} {tpos : Pos} (hg : gloB s "enumerate" = true) (ha : PE X x (tE G W (evE C a))) (hx : noStar x = true) : PI X (.Tuple elts kk tpos) (.Call (.Name "enumerate" p) [x] [] pos) (tW G W (evW C (.enm a))) := by
  obtain ⟨g1, g2, g3, g4, g5⟩ := c.glo hg
  have hm : X.mg "enumerate" = none := c.blt hd (by decide)
  refine pi_imp (pi_enumA g1 hm (pa_cons ha pa_nil (star_of hx)) (star_of hx)) fun σ H R ⟨m, ρ, S, re, rs, q⟩ => ?_
  simp only [evW] at q
  refine tX.go re rs q fun d S1 m1 H1 v1 x1 re1 rs1 r1 q1 => ?_
  unfold enmIt at q1
  split at q1
  · rename_i l e
    have viaL : lstOf d S1 = some l → ∃ a_1, [v1] = [V.ref a_1] ∧ ((∃ xs, SqL X.K H1 a_1 xs ∧ R (Ite X.K a_1) H1) ∨ ∃ xs, SqT X.K H1 a_1 xs ∧ R (Itet X.K a_1) H1) := fun e => by
      obtain ⟨A, rfl, h⟩ := lstAt_of (g := guard d S1) (fun _ q => q) rs1 r1 e
      obtain ⟨A', vs, eA, hv, rl⟩ := lstOf_sq rs1 r1 e
      cases eA
      exact ⟨A, rfl, .inl ⟨vs, by rw [c.K]; exact sq_of hv, by rw [c.K]; exact q1 m1 H1 _ Ext.refl rs1 (ry_enm h)⟩⟩
    cases d with
    | tup k =>
      cases e
      obtain ⟨A, rfl, h⟩ := tupAt_of r1
      obtain ⟨vs, hv, rl⟩ := h m1 H1 Ext.refl
      exact ⟨A, rfl, .inr ⟨vs, by rw [c.K]; exact hv, by rw [c.K]; exact q1 m1 H1 _ Ext.refl rs1 (ry_enmT h)⟩⟩
    | lst k => exact viaL e
    | ref k => exact viaL e
    | _ => cases e
  · exact q1.elim
theorem w_zip (hd : Hd G) (c : Ctx G n X s W) {elts : List Expr} {kk : Nat} {tpos : Pos} (hg : gloB s "zip" = true) (ha : PE X x (tE G W (evE C a))) (hx : noStar x = true) (hb : PE X y (tE G W (evE C b))) (hy : noStar y = true) : PI X (.Tuple elts kk tpos) (.Call (.Name "zip" p) [x, y] [] pos) (tW G W (evW C (.zip a b))) := by
  obtain ⟨g1, g2, g3, g4, g5⟩ := c.glo hg
  have hm : X.mg "zip" = none := c.blt hd (by decide)
  refine pi_imp (RZ.pi_zipA g1 hm (pa_cons ha (pa_cons hb pa_nil (star_of hy)) (star_of hx)) (star_of hx) (any_star (by simp [hy]))) fun σ H R ⟨m, ρ, S, re, rs, q⟩ => ?_
  simp only [evW] at q
  refine tX.go re rs q fun d S1 m1 H1 v1 x1 re1 rs1 r1 q1 => ?_
  refine tX.go re1 rs1 q1 fun d2 S2 m2 H2 v2 x2 re2 rs2 r2 q2 => ?_
  have r1' := Rep.mono x2 _ _ r1
  rw [c.K]
  unfold zipIt at q2
  split at q2
  · obtain ⟨A, rfl, h1⟩ := tupAt_of r1'
    obtain ⟨B, rfl, h2⟩ := tupAt_of r2
    obtain ⟨vs, hv, _⟩ := h1 m2 H2 Ext.refl
    obtain ⟨us, hu, _⟩ := h2 m2 H2 Ext.refl
    exact ⟨A, B, vs, us, rfl, .inr ⟨hv, hu, q2 m2 H2 _ Ext.refl rs2 (ry_zipT h1 h2)⟩⟩
  · split at q2
    · rename_i l r e1 e2
      obtain ⟨A, rfl, h1⟩ := lstAt_of (g := guard d S2 ++ guard d2 S2) (fun _ q => (gOk_app.mp q).1) rs2 r1' e1
      obtain ⟨B, rfl, h2⟩ := lstAt_of (g := guard d S2 ++ guard d2 S2) (fun _ q => (gOk_app.mp q).2) rs2 r2 e2
      obtain ⟨A', vs, eA, hv, _⟩ := lstOf_sq rs2 r1' e1
      obtain ⟨B', us, eB, hu, _⟩ := lstOf_sq rs2 r2 e2
      cases eA; cases eB
      exact ⟨A, B, vs, us, rfl, .inl ⟨sq_of hv, sq_of hu, q2 m2 H2 _ Ext.refl rs2 (ry_zip h1 h2)⟩⟩
    · exact q2.elim
theorem w_rev (hd : Hd G) (c : Ctx G n X s W) (hg : gloB s "reversed" = true) (ha : PE X x (tE G W (evE C a))) (hx : noStar x = true) : PI X tg (.Call (.Name "reversed" p) [x] [] pos) (tW G W (evW C (.rev a))) := by
  obtain ⟨g1, g2, g3, g4, g5⟩ := c.glo hg
  have hm : X.mg "reversed" = none := c.blt hd (by decide)
  refine pi_imp (RT.pi_revA g1 hm ha (star_of hx)) fun σ H R ⟨m, ρ, S, re, rs, q⟩ => ?_
  simp only [evW] at q
  refine tX.go re rs q fun d S1 m1 H1 v1 x1 re1 rs1 r1 q1 => ?_
  rw [c.K]
  unfold revIt at q1
  split at q1
  · rename_i l e
    have viaL : ∀ {d : D}, Rep G m1 H1 d v1 → lstOf d S1 = some l → (Fin G W σ (RY G) m1 H1 (.ok (l.reverse, guard d S1) S1) fun _ _ _ H' v => R v H') → ∃ (a : Addr) (xs : List V), v1 = .ref a ∧ ((SqL G.K H1 a xs ∧ R (Itv G.K a xs.length) H1) ∨ (SqT G.K H1 a xs ∧ R (RT.ItvT G.K a xs.length) H1)) := fun {d} r1 e q1 => by
      obtain ⟨A, rfl, h⟩ := lstAt_of (g := guard d S1) (fun _ q => q) rs1 r1 e
      obtain ⟨A', vs, eA, hv, rl⟩ := lstOf_sq rs1 r1 e
      cases eA
      exact ⟨A, vs, rfl, .inl ⟨sq_of hv, by rw [← rl.length]; exact q1 m1 H1 _ Ext.refl rs1 (ry_rev h)⟩⟩
    cases d with
    | tup k =>
      cases e
      obtain ⟨A, rfl, h⟩ := tupAt_of r1
      obtain ⟨vs, hv, rl⟩ := h m1 H1 Ext.refl
      exact ⟨A, vs, rfl, .inr ⟨hv, by rw [← rl.length]; exact q1 m1 H1 _ Ext.refl rs1 (ry_revT h)⟩⟩
    | lst k => exact viaL r1 e q1
    | ref k => exact viaL r1 e q1
    | _ => cases e
  · exact q1.elim
/-! #### targets -/
def idxs : Tg → List Nat
  | .nm i => [i]
  | .tp is => is
/-- what a target leaves as it was -/
def Same (is : List Nat) (σ σ' : L2.St) : Prop := σ'.length = σ.length ∧ ∀ j, j ∉ is → σ'[j]? = σ[j]?
def gT (G : Pg) (tg : Tg) : TG := fun v σ H Q => ∃ m ρ S d ρ', RE G m H ρ σ ∧ RS G m H S ∧ Rep G m H d v ∧ setT tg d ρ S = some ρ' ∧ ∀ σ', RE G m H ρ' σ' → Same (idxs tg) σ σ' → Q σ' H
def gAll : List Nat → TGs
  | [] => gNil
  | i :: is => gCons (gName i) (gAll is)
theorem pgs_all (c : Ctx G n X s W) : ∀ {is : List Nat} {es : List Expr}, tgsB s is es = true → PGs X es (gAll is) ∧ (assignEach es X.env).length = es.length ∧ (assignEach es X.env).findIdx? (·.1) = none ∧ es.length = is.length
  | [], [], _ => ⟨pgs_nil, rfl, rfl, rfl⟩
  | i :: is, e :: es, h => by
    simp only [tgsB, Bool.and_eq_true] at h
    obtain ⟨h1, h2⟩ := h
    obtain ⟨q1, q2, q3, q4⟩ := pgs_all c h2
    split at h1
    · obtain ⟨p1, p2, p3⟩ := c.put h1
      refine ⟨pgs_cons (pg_name c.nN p1 p2 p3) q1 rfl, congrArg Nat.succ q2, ?_, congrArg Nat.succ q4⟩
      show (List.findIdx? (·.1) ((false, _) :: assignEach es X.env)) = none
      rw [List.findIdx?_cons]
      simp only [Bool.false_eq_true, if_false, q3, Option.map_none]
    · cases h1
  | [], _ :: _, h => by simp [tgsB] at h
  | _ :: _, [], h => by simp [tgsB] at h
theorem all_set {m : List Addr} {H : Hp} {Q : L2.St → Hp → Prop} : ∀ {is : List Nat} {ds : List D} {vs : List V} {ρ ρ' : Fr} {σ : L2.St}, RE G m H ρ σ → RepL G m H ds vs → setAll is ds ρ = some ρ' → (∀ σ', RE G m H ρ' σ' → Same is σ σ' → Q σ' H) → gAll is vs σ H Q
  | [], [], vs, ρ, ρ', σ, re, r, e, q => by
    simp only [setAll] at e
    cases e
    simp only [RepL] at r
    exact ⟨r, q σ re ⟨rfl, fun _ _ => rfl⟩⟩
  | i :: is, d :: ds, vs, ρ, ρ', σ, re, r, e, q => by
    simp only [setAll] at e
    simp only [RepL] at r
    obtain ⟨v, us, rfl, r1, r2⟩ := r
    refine ⟨v, us, rfl, ?_⟩
    refine all_set (re.set r1) r2 e fun σ' re' sm => q σ' re' ⟨by rw [sm.1]; simp, fun j hj => ?_⟩
    rw [sm.2 j (fun z => hj (List.mem_cons_of_mem _ z)), List.getElem?_set_ne]
    exact fun z => hj (by rw [z]; exact List.mem_cons_self ..)
  | [], _ :: _, _, _, _, _, _, _, e, _ => by simp [setAll] at e
  | _ :: _, [], _, _, _, _, _, _, e, _ => by simp [setAll] at e
theorem pg_imp {t t' : TG} (h : PG X tg t) (i : ∀ v σ H Q, t' v σ H Q → t v σ H Q) : PG X tg t' := ⟨fun pins s σ H v u Q I r q => h.run pins s σ H v u Q I r (i v σ H Q q)⟩
theorem r_tg (c : Ctx G n X s W) {t : Tg} (h : tgB s t tg = true) : PG X tg (gT G t) := by
  unfold tgB at h
  split at h
  · split at h
    · obtain ⟨p1, p2, p3⟩ := c.put h
      refine pg_imp (pg_name c.nN p1 p2 p3) fun v σ H Q ⟨m, ρ, S, d, ρ', re, rs, r, e, q⟩ => ?_
      simp only [setT] at e
      cases e
      refine q _ (re.set r) ⟨by simp, fun j hj => ?_⟩
      rw [List.getElem?_set_ne]
      exact fun z => hj (by rw [z]; exact List.mem_cons_self ..)
    · cases h
  · split at h
    · rename_i elts _ _
      obtain ⟨h1, h2, h3, h4⟩ := pgs_all c h
      refine ⟨fun pins st σ H v u Q I rv ⟨m, ρ, S, d, ρ', re, rs, r, e, q⟩ => ?_⟩
      simp only [setT] at e
      split at e
      · rename_i k ek
        obtain ⟨A, vs, rfl, hp, rl⟩ := seqOf_sq rs r ek
        have fin := all_set re rl e q
        have hlen : vs.length = (assignEach elts X.env).length := by
          rw [h2, h4, ← rl.length]
          have : ∀ {is : List Nat} {ds : List D} {ρ ρ' : Fr}, setAll is ds ρ = some ρ' → ds.length = is.length := fun {is} => by
            induction is with
            | nil => intro ds ρ ρ' e; cases ds with
              | nil => rfl
              | cons _ _ => simp [setAll] at e
            | cons i is ih => intro ds ρ ρ' e; cases ds with
              | nil => simp [setAll] at e
              | cons _ _ => simp only [setAll] at e; simp only [List.length_cons, ih e]
          exact this e
        rcases hp with hp | hp
        · exact (pg_lst c.calm h1 rfl h3).run pins st σ H _ u Q I rv ⟨A, vs, rfl, sq_of hp, hlen, fin⟩
        · exact (pg_tup c.calm h1 rfl h3).run pins st σ H _ u Q I rv ⟨A, vs, rfl, by rw [c.K]; exact hp, hlen, fin⟩
      · cases e
    · cases h
/-! #### comprehensions -/
theorem wipe_get : ∀ (is : List Nat) (σ : L2.St) (j : Nat), (L2.wipe σ is)[j]? = if j ∈ is ∧ j < σ.length then some none else σ[j]?
  | [], σ, j => by simp [L2.wipe]
  | i :: is, σ, j => by
    simp only [L2.wipe]
    by_cases hij : i = j
    · subst hij
      rw [List.getElem?_set]
      simp only [if_true, L2.wipe_length, List.mem_cons, true_or, true_and]
      split
      · rfl
      · rename_i h
        rw [List.getElem?_eq_none (by omega)]
    · rw [List.getElem?_set_ne hij, wipe_get is σ j]
      simp only [List.mem_cons, show (j = i) = False from eq_false (Ne.symm hij), false_or]
theorem wipe_same {is own : List Nat} {σ σ' : L2.St} (h : Same is (L2.wipe σ own) σ') (hs : ∀ i ∈ is, i ∈ own) : L2.wipe σ' own = L2.wipe σ own := by
  apply List.ext_getElem?
  intro j
  have hl : σ'.length = σ.length := by rw [h.1, L2.wipe_length]
  rw [wipe_get, wipe_get, hl]
  by_cases hj : j ∈ own ∧ j < σ.length
  · rw [if_pos hj, if_pos hj]
  · rw [if_neg hj, if_neg hj]
    by_cases hj2 : j ∈ own
    · have : ¬ j < σ.length := fun z => hj ⟨hj2, z⟩
      rw [List.getElem?_eq_none (by omega), List.getElem?_eq_none (by omega)]
    · rw [h.2 j (fun z => hj2 (hs j z)), wipe_get, if_neg (fun z => hj2 z.1)]
/-- no exception -/
def noW : WX := fun _ _ _ _ => False
theorem takesN : Takes X noW := fun _ _ ⟨_, _, _, _, _, _, _, _, _, _, _, _, _, _, _, _, z⟩ => z.elim
theorem fin_nox {σ : L2.St} {m : List Addr} {H : Hp} {α γ δ : Type} {R' : List Addr → Hp → γ → δ → Prop} {r : Rs α} {k : α → Store → Rs γ} {t : Tag k} {K : γ → Store → List Addr → Hp → δ → Prop} (h : Fin G W σ R' m H (r.nox.th k t) K) : ∃ a S', r = .ok a S' ∧ Fin G W σ R' m H (k a S') K := by
  cases r with
  | ok a S' => exact ⟨a, S', rfl, h⟩
  | ex _ _ _ => exact h.elim
  | bad => exact h.elim
/-- a result that is reached: its reading, whatever is asked of exceptions -/
theorem fin_ok {σ σ' : L2.St} {W' : WX} {m : List Addr} {H : Hp} {α β γ : Type} {R : List Addr → Hp → α → β → Prop} {r : Rs α} {k : α → Store → Rs γ} {t : Tag k} {c : γ} {S' : Store} {K : α → Store → List Addr → Hp → β → Prop} (h : r.th k t = .ok c S')
    (q : ∀ a S1 m' H' v, k a S1 = .ok c S' → r = .ok a S1 → Ext m H m' H' → RS G m' H' S1 → R m' H' a v → K a S1 m' H' v) : Fin G W' σ' R m H r K := by
  cases r with
  | ok a S1 => exact fun m' H' v x rs' r => q a S1 m' H' v h rfl x rs' r
  | ex _ _ _ => cases h
  | bad => cases h
theorem fin_th {α γ : Type} {r : Rs α} {k : α → Store → Rs γ} {t : Tag k} {c : γ} {S' : Store} (h : r.th k t = .ok c S') : ∃ a S1, r = .ok a S1 ∧ k a S1 = .ok c S' := by
  cases r with
  | ok a S1 => exact ⟨a, S1, rfl, h⟩
  | ex _ _ _ => cases h
  | bad => cases h
/-- a reading that ends well, exceptions or no -/
theorem tX.okk {α β : Type} {R : List Addr → Hp → α → β → Prop} {ev : Fr → Store → Rs α} {σ : L2.St} {m : List Addr} {H : Hp} {ρ : Fr} {S S' : Store} {a : α} {Q : β → Hp → Prop} (re : RE G m H ρ σ) (rs : RS G m H S) (e : ev ρ S = .ok a S')
    (q : ∀ m' H' v, Ext m H m' H' → RE G m' H' ρ σ → RS G m' H' S' → R m' H' a v → Q v H') : tX G W R ev σ H Q :=
  ⟨m, ρ, S, re, rs, by rw [e]; exact fun m' H' v x rs' r => q m' H' v x (re.mono x) rs' r⟩
theorem lc_run {t : Tg} {cnd : Exo} {e0 : Ex} {ρ : Fr} {g : Gd} {k : Nat} {D : Addr} {J : It} {ds0 : List Ev.D} {m0 : List Addr} {H0 : Hp} {own : List Nat} {σ : L2.St} {Sf : Store} {Q : Hp → Prop} (ry : RY G m0 H0 (ds0, g) J) (hs : ∀ i ∈ idxs t, i ∈ own) (re0 : RE G m0 H0 ρ (L2.wipe σ own))
    (fin : ∀ m H, Ext m0 H0 m H → RS G m H Sf → m[k]? = some D → Q H) :
    ∃ W : Nat → Nat → Hp → Prop, (∀ m H S, Ext m0 H0 m H → RS G m H S → m[k]? = some D → lcL t (fun ρ S => evC C cnd ρ S) (fun ρ S => evE C e0 ρ S) ρ g k ds0 S = .ok () Sf → W 0 ds0.length H) ∧ ∀ i m H, W i m H →
      (J.stop i H ∧ Q H) ∨ (J.go i H ∧ ∃ Nx : Hp → Prop, (∀ H', Nx H' → ∃ m', m' < m ∧ W (i + 1) m' H') ∧ ∀ x H', J.yld i H x H' → gT G t x (L2.wipe σ own) H' fun σ2 H2 => L2.wipe σ2 own = L2.wipe σ own ∧ tT G noW (evC C cnd) σ2 H2 fun b H3 =>
        if b = true then tE G noW (evE C e0) σ2 H3 fun y H4 => ∃ acc, H4 D = some (.lst acc) ∧ acc.length < sizeLine ∧ Nx (upd H4 D (.lst (acc ++ [y]))) else Nx H3) := by
  refine ⟨fun i j H => ∃ m S, j = ds0.length - i ∧ i ≤ ds0.length ∧ Ext m0 H0 m H ∧ RS G m H S ∧ m[k]? = some D ∧ lcL t (fun ρ S => evC C cnd ρ S) (fun ρ S => evE C e0 ρ S) ρ g k (ds0.drop i) S = .ok () Sf, fun m H S x rs hm e => ⟨m, S, rfl, Nat.zero_le _, x, rs, hm, e⟩, ?_⟩
  rintro i j H ⟨m, S, rfl, hi, x, rs, hm, e⟩
  by_cases hlt : i < ds0.length
  · have hd : ds0.drop i = ds0[i] :: ds0.drop (i + 1) := List.drop_eq_getElem_cons hlt
    rw [hd] at e
    simp only [lcL] at e
    split at e
    · rename_i hg
      obtain ⟨go, yl⟩ := (ry m H S x rs hg i).1 ds0[i] (List.getElem?_eq_getElem hlt)
      split at e
      · rename_i ρ1 et
        refine .inr ⟨go, fun H' => ∃ m' S', Ext m0 H0 m' H' ∧ RS G m' H' S' ∧ m'[k]? = some D ∧ lcL t (fun ρ S => evC C cnd ρ S) (fun ρ S => evE C e0 ρ S) ρ g k (ds0.drop (i + 1)) S' = .ok () Sf, ?_, ?_⟩
        · rintro H' ⟨m', S', x', rs', hm', e'⟩
          exact ⟨ds0.length - (i + 1), by omega, m', S', rfl, hlt, x', rs', hm', e'⟩
        · intro v H1 hy
          obtain ⟨x1, rs1, r1⟩ := yl v H1 hy
          refine ⟨m, ρ, S, ds0[i], ρ1, (re0.mono x).mono x1, rs1, r1, et, fun σ2 re2 sm => ⟨wipe_same sm hs, ?_⟩⟩
          obtain ⟨b, S2, eb, e3⟩ := fin_th e
          refine tX.okk re2 rs1 eb fun m2 H2 b' x2 re3 rs2 rb => ?_
          have eb' : b = b' := rb
          subst eb'
          cases b with
          | false => exact ⟨m2, S2, (x.trans x1).trans x2, rs2, pre_get x2.pre hm, e3⟩
          | true =>
            simp only [if_true] at e3 ⊢
            obtain ⟨d, S3, ed, e4⟩ := fin_th e3
            refine tX.okk re3 rs2 ed fun m3 H3 y x3 re4 rs3 ry3 => ?_
            have hm3 := pre_get (x2.trans x3).pre hm
            split at e4
            · rename_i acc ea
              split at e4
              · rename_i hz
                obtain ⟨p, hp, vs, hv, rl⟩ := rs3.cel _ _ ea
                rw [hm3] at hp
                cases hp
                refine ⟨vs, hv, by rw [← rl.length, ← lim]; exact hz, ?_⟩
                have xw : Ext m3 H3 m3 (upd H3 D (.lst (vs ++ [y]))) := Ext.write (List.mem_of_getElem? hm3)
                exact ⟨m3, _, ((x.trans x1).trans (x2.trans x3)).trans xw, rs3.write (c := .lst (acc ++ [d])) hm3 ⟨_, upd_same, RepL.mono xw _ _ (rl.append (RepL.cons ry3 RepL.nil))⟩, hm3, e4⟩
              · cases e4
            · cases e4
      · cases e
    · cases e
  · have e1 : i = ds0.length := by omega
    have hd : ds0.drop i = [] := List.drop_eq_nil_of_le (by omega)
    rw [hd] at e
    simp only [lcL] at e
    split at e
    · rename_i hg
      cases e
      exact .inl ⟨(ry m H _ x rs hg i).2 e1.symm, fin m H x rs hm⟩
    · cases e
theorem blk_ctx (c : Ctx G n X s W) {sc : Scope} (st : Shared) (H : Hp) (Ca : Addr) (cl : List (Str × Addr)) (fp : List Addr) : Ctx G n (X.blk st H sc (compEnvC sc cl Ca X.env) fp) ⟨s.N, L2.relS sc s.sc, some sc⟩ noW where
  prog := c.prog
  w := c.w
  K := c.K
  mg := c.mg
  base := c.base
  N := c.N
  nd := c.nd
  sc := by
    show L2.relS sc X.env.scope = _
    rw [c.sc]
  fn := fun x hx hbk => by
    have := hbk sc rfl
    show (sc.names.lookup x == some .cell) = true
    rw [this]; rfl
  calm := c.calm
  tk := takesN
  room := ⟨c.room.hd, c.room.dp, c.room.un⟩
  lv := c.lv
  lv1 := c.lv1
theorem own_map {N : List Str} (own : List Nat) : (own.map fun j => (N.getD j "", j)).map (fun x => x.2) = own := by
  rw [List.map_map]
  show own.map id = own
  exact List.map_id _
theorem lc_read {k : Bool} {own : List Nat} {t : Tg} {it : Iter} {cnd : Exo} {e0 : Ex} (hs : ∀ i ∈ idxs t, i ∈ own) (σ : L2.St) (H : Hp) (Q : VK) (h : tE G W (evE C (.lc k own t it cnd e0)) σ H Q) : tLc (tW G W (evW C it)) (gT G t) (tT G noW (evC C cnd)) (tE G noW (evE C e0)) own σ H Q := by
  obtain ⟨m, ρ, S, re, rs, q⟩ := h
  simp only [evE] at q
  refine tX.go re rs q fun p S1 m1 H1 J x1 re1 rs1 ry q1 => ?_
  obtain ⟨_, S2, e2, q2⟩ := fin_nox q1
  intro D hD
  have xc : Ext m1 H1 (m1 ++ [D]) (upd H1 D (.lst [])) := Ext.cell hD
  have rsc : RS G (m1 ++ [D]) (upd H1 D (.lst [])) (S1 ++ [.lst []]) := rs1.cell hD ⟨[], upd_same, RepL.nil⟩
  have hk : (m1 ++ [D])[S1.length]? = some D := by rw [← rs1.len]; simp
  have hDm : D ∉ m1 := rs1.fresh hD
  obtain ⟨Wd, w0, wn⟩ := lc_run (C := C) (cnd := cnd) (e0 := e0) (k := S1.length) (D := D) (Sf := S2) (Q := Q (.ref D)) (g := p.2) (ds0 := p.1) (t := t) (own := own) (σ := σ) (ρ := Ev.wipe ρ own) ry hs (re1.wipe own) fun m' H' x' rs' hm' => by
    unfold lcE at q2
    split at q2
    · rename_i l el
      obtain ⟨p', hp', vs, hv, rl⟩ := rs'.cel _ _ el
      rw [hm'] at hp'
      cases hp'
      split at q2
      · exact q2 m' H' _ x' rs' (rep_ref hm')
      · split at q2
        · rename_i hcut
          rw [Bool.and_eq_true] at hcut
          obtain ⟨rs4, x4⟩ := rs'.drop x' rs1 hcut.1
          exact q2 m1 H' _ x4 rs4 (rep_lst ⟨hDm, .inl hv⟩ (RepL.less x'.pre _ _ (by rw [rs1.len]; exact hcut.2) rl))
        · exact q2 m' H' _ x' rs' (rep_ref hm')
    · exact q2.elim
  exact ⟨Wd, ⟨_, w0 _ _ _ xc rsc hk e2⟩, wn⟩
theorem r_lc (c : Ctx G n X s W) {k : Bool} {own : List Nat} {t : Tg} {it : Iter} {cnd : Exo} {e0 : Ex} {elt tgE iter : Expr} {ifs : List Expr} {sc : Scope} (hi : PI X tgE iter (tW G W (evW C it))) (hns : noSet iter = true)
    (hb : L2.blkC s.N s.sc sc (own.map fun j => (s.N.getD j "", j)) = true) (hs : ∀ i ∈ idxs t, i ∈ own)
    (ht : ∀ X', Ctx G n X' ⟨s.N, L2.relS sc s.sc, some sc⟩ noW → PG X' tgE (gT G t) ∧ PTs X' ifs (tT G noW (evC C cnd)) ∧ PE X' elt (tE G noW (evE C e0))) :
    PE X (.ListComp elt [⟨tgE, iter, ifs, 0⟩] sc pos) (tE G W (evE C (.lc k own t it cnd e0))) := by
  have q0 := pe_lc (pos := pos) c.calm c.nN hi (blkOk_by (by rw [c.N, c.sc]; exact hb)) (fun st H Ca cl fp => (ht _ (blk_ctx c st H Ca cl fp)).1) (fun st H Ca cl fp => (ht _ (blk_ctx c st H Ca cl fp)).2.1) (fun st H Ca cl fp => (ht _ (blk_ctx c st H Ca cl fp)).2.2) (folded_of hns)
  rw [own_map] at q0
  exact pe_imp q0 (lc_read hs)
theorem idxs_eq (t : Tg) : tgIx t = idxs t := by cases t <;> rfl
theorem lc2_run {t t2 : Tg} {cnd cnd2 : Exo} {it2 : Iter} {e0 : Ex} {ρ : Fr} {g : Gd} {k : Nat} {D : Addr} {J : It} {ds0 : List Ev.D} {m0 : List Addr} {H0 : Hp} {own : List Nat} {σ : L2.St} {Sf : Store} {Q : Hp → Prop} (ry : RY G m0 H0 (ds0, g) J) (hs : ∀ i ∈ idxs t, i ∈ own) (re0 : RE G m0 H0 ρ (L2.wipe σ own))
    (fin : ∀ m H, Ext m0 H0 m H → RS G m H Sf → m[k]? = some D → Q H) :
    ∃ W : Nat → Nat → Hp → Prop, (∀ m H S, Ext m0 H0 m H → RS G m H S → m[k]? = some D → lcL2 t (fun ρ S => evC C cnd ρ S) (fun ρ S => evW C it2 ρ S) t2 (fun ρ S => evC C cnd2 ρ S) (fun ρ S => evE C e0 ρ S) ρ g k ds0 S = .ok () Sf → W 0 ds0.length H) ∧ ∀ i m H, W i m H →
      (J.stop i H ∧ Q H) ∨ (J.go i H ∧ ∃ Nx : Hp → Prop, (∀ H', Nx H' → ∃ m', m' < m ∧ W (i + 1) m' H') ∧ ∀ x H', J.yld i H x H' → gT G t x (L2.wipe σ own) H' fun σ2 H2 => L2.wipe σ2 own = L2.wipe σ own ∧ tT G noW (evC C cnd) σ2 H2 fun b H3 =>
        if b = true then tW G noW (evW C it2) σ2 H3 fun J1 H4 => ∃ W1 : Nat → Nat → Hp → Prop, (∃ m, W1 0 m H4) ∧ ∀ j k H, W1 j k H →
          (J1.stop j H ∧ Nx H) ∨ (J1.go j H ∧ ∃ Nx1 : Hp → Prop, (∀ H', Nx1 H' → ∃ k', k' < k ∧ W1 (j + 1) k' H') ∧ ∀ x H', J1.yld j H x H' → gT G t2 x (L2.wipe σ2 (idxs t2)) H' fun σ3 H5 => L2.wipe σ3 (idxs t2) = L2.wipe σ2 (idxs t2) ∧ tT G noW (evC C cnd2) σ3 H5 fun b H6 =>
            if b = true then tE G noW (evE C e0) σ3 H6 fun y H7 => ∃ acc, H7 D = some (.lst acc) ∧ acc.length < sizeLine ∧ Nx1 (upd H7 D (.lst (acc ++ [y]))) else Nx1 H6)
        else Nx H3) := by
  refine ⟨fun i j H => ∃ m S, j = ds0.length - i ∧ i ≤ ds0.length ∧ Ext m0 H0 m H ∧ RS G m H S ∧ m[k]? = some D ∧ lcL2 t (fun ρ S => evC C cnd ρ S) (fun ρ S => evW C it2 ρ S) t2 (fun ρ S => evC C cnd2 ρ S) (fun ρ S => evE C e0 ρ S) ρ g k (ds0.drop i) S = .ok () Sf, fun m H S x rs hm e => ⟨m, S, rfl, Nat.zero_le _, x, rs, hm, e⟩, ?_⟩
  rintro i j H ⟨m, S, rfl, hi, x, rs, hm, e⟩
  by_cases hlt : i < ds0.length
  · have hd : ds0.drop i = ds0[i] :: ds0.drop (i + 1) := List.drop_eq_getElem_cons hlt
    rw [hd] at e
    simp only [lcL2] at e
    split at e
    · rename_i hg
      obtain ⟨go, yl⟩ := (ry m H S x rs hg i).1 ds0[i] (List.getElem?_eq_getElem hlt)
      split at e
      · rename_i ρ1 et
        refine .inr ⟨go, fun H' => ∃ m' S', Ext m0 H0 m' H' ∧ RS G m' H' S' ∧ m'[k]? = some D ∧ lcL2 t (fun ρ S => evC C cnd ρ S) (fun ρ S => evW C it2 ρ S) t2 (fun ρ S => evC C cnd2 ρ S) (fun ρ S => evE C e0 ρ S) ρ g k (ds0.drop (i + 1)) S' = .ok () Sf, ?_, ?_⟩
        · rintro H' ⟨m', S', x', rs', hm', e'⟩
          exact ⟨ds0.length - (i + 1), by omega, m', S', rfl, hlt, x', rs', hm', e'⟩
        · intro v H1 hy
          obtain ⟨x1, rs1, r1⟩ := yl v H1 hy
          refine ⟨m, ρ, S, ds0[i], ρ1, (re0.mono x).mono x1, rs1, r1, et, fun σ2 re2 sm => ⟨wipe_same sm hs, ?_⟩⟩
          obtain ⟨b, S2, eb, e3⟩ := fin_th e
          refine tX.okk re2 rs1 eb fun m2 H2 b' x2 re3 rs2 rb => ?_
          have eb' : b = b' := rb
          subst eb'
          cases b with
          | false => exact ⟨m2, S2, (x.trans x1).trans x2, rs2, pre_get x2.pre hm, e3⟩
          | true =>
            simp only [if_true] at e3 ⊢
            obtain ⟨p, S3, ed, e4⟩ := fin_th e3
            obtain ⟨_, S4, e5, e6⟩ := fin_th e4
            refine tX.okk re3 rs2 ed fun m3 H3 J1 x3 re4 rs3 ry3 => ?_
            have hm3 := pre_get (x2.trans x3).pre hm
            obtain ⟨W1, w1, w2⟩ := lc_run (C := C) (cnd := cnd2) (e0 := e0) (k := k) (D := D) (Sf := S4) (Q := fun H' => ∃ m' S', Ext m0 H0 m' H' ∧ RS G m' H' S' ∧ m'[k]? = some D ∧ lcL2 t (fun ρ S => evC C cnd ρ S) (fun ρ S => evW C it2 ρ S) t2 (fun ρ S => evC C cnd2 ρ S) (fun ρ S => evE C e0 ρ S) ρ g k (ds0.drop (i + 1)) S' = .ok () Sf) (g := p.2) (ds0 := p.1) (t := t2) (own := idxs t2) (σ := σ2) (ρ := Ev.wipe ρ1 (tgIx t2)) ry3 (fun _ h => h) (by rw [idxs_eq]; exact re4.wipe _) fun m' H' x' rs' hm' => ⟨m', S4, ((x.trans x1).trans (x2.trans x3)).trans x', rs', hm', e6⟩
            exact ⟨W1, ⟨_, w1 _ _ _ Ext.refl rs3 hm3 e5⟩, w2⟩
      · cases e
    · cases e
  · have e1 : i = ds0.length := by omega
    have hd : ds0.drop i = [] := List.drop_eq_nil_of_le (by omega)
    rw [hd] at e
    simp only [lcL2] at e
    split at e
    · rename_i hg
      cases e
      exact .inl ⟨(ry m H _ x rs hg i).2 e1.symm, fin m H x rs hm⟩
    · cases e
theorem lc2_read {k : Bool} {own : List Nat} {t t2 : Tg} {it it2 : Iter} {cnd cnd2 : Exo} {e0 : Ex} (hs : ∀ i ∈ idxs t, i ∈ own) (σ : L2.St) (H : Hp) (Q : VK) (h : tE G W (evE C (.lc2 k own t it cnd t2 it2 cnd2 e0)) σ H Q) : tLc2 (tW G W (evW C it)) (gT G t) (tT G noW (evC C cnd)) (tW G noW (evW C it2)) (gT G t2) (tT G noW (evC C cnd2)) (tE G noW (evE C e0)) own (idxs t2) σ H Q := by
  obtain ⟨m, ρ, S, re, rs, q⟩ := h
  simp only [evE] at q
  refine tX.go re rs q fun p S1 m1 H1 J x1 re1 rs1 ry q1 => ?_
  obtain ⟨_, S2, e2, q2⟩ := fin_nox q1
  intro D hD
  have xc : Ext m1 H1 (m1 ++ [D]) (upd H1 D (.lst [])) := Ext.cell hD
  have rsc : RS G (m1 ++ [D]) (upd H1 D (.lst [])) (S1 ++ [.lst []]) := rs1.cell hD ⟨[], upd_same, RepL.nil⟩
  have hk : (m1 ++ [D])[S1.length]? = some D := by rw [← rs1.len]; simp
  have hDm : D ∉ m1 := rs1.fresh hD
  obtain ⟨Wd, w0, wn⟩ := lc2_run (C := C) (cnd := cnd) (it2 := it2) (t2 := t2) (cnd2 := cnd2) (e0 := e0) (k := S1.length) (D := D) (Sf := S2) (Q := Q (.ref D)) (g := p.2) (ds0 := p.1) (t := t) (own := own) (σ := σ) (ρ := Ev.wipe ρ own) ry hs (re1.wipe own) fun m' H' x' rs' hm' => by
    unfold lcE at q2
    split at q2
    · rename_i l el
      obtain ⟨p', hp', vs, hv, rl⟩ := rs'.cel _ _ el
      rw [hm'] at hp'
      cases hp'
      split at q2
      · exact q2 m' H' _ x' rs' (rep_ref hm')
      · split at q2
        · rename_i hcut
          rw [Bool.and_eq_true] at hcut
          obtain ⟨rs4, x4⟩ := rs'.drop x' rs1 hcut.1
          exact q2 m1 H' _ x4 rs4 (rep_lst ⟨hDm, .inl hv⟩ (RepL.less x'.pre _ _ (by rw [rs1.len]; exact hcut.2) rl))
        · exact q2 m' H' _ x' rs' (rep_ref hm')
    · exact q2.elim
  exact ⟨Wd, ⟨_, w0 _ _ _ xc rsc hk e2⟩, wn⟩
theorem r_lc2 (c : Ctx G n X s W) {k : Bool} {own : List Nat} {t t2 : Tg} {it it2 : Iter} {cnd cnd2 : Exo} {e0 : Ex} {elt tgE iter tgE2 iter2 : Expr} {ifs ifs2 : List Expr} {sc : Scope} (hi : PI X tgE iter (tW G W (evW C it))) (hns : noSet iter = true) (hns2 : noSet iter2 = true)
    (hb : L2.blkC s.N s.sc sc (own.map fun j => (s.N.getD j "", j)) = true) (hs : ∀ i ∈ idxs t, i ∈ own) (hs2 : ∀ i ∈ idxs t2, i ∈ own)
    (ht : ∀ X', Ctx G n X' ⟨s.N, L2.relS sc s.sc, some sc⟩ noW → PG X' tgE (gT G t) ∧ PTs X' ifs (tT G noW (evC C cnd)) ∧ PI X' tgE2 iter2 (tW G noW (evW C it2)) ∧ PG X' tgE2 (gT G t2) ∧ PTs X' ifs2 (tT G noW (evC C cnd2)) ∧ PE X' elt (tE G noW (evE C e0))) :
    PE X (.ListComp elt [⟨tgE, iter, ifs, 0⟩, ⟨tgE2, iter2, ifs2, 0⟩] sc pos) (tE G W (evE C (.lc2 k own t it cnd t2 it2 cnd2 e0))) := by
  have q0 := pe_lc2 (pos := pos) (vs1 := idxs t2) c.calm c.nN hi (blkOk_by (by rw [c.N, c.sc]; exact hb)) (by rw [own_map]; exact hs2) (fun st H Ca cl fp => (ht _ (blk_ctx c st H Ca cl fp)).1) (fun st H Ca cl fp => (ht _ (blk_ctx c st H Ca cl fp)).2.1) (fun st H Ca cl fp => (ht _ (blk_ctx c st H Ca cl fp)).2.2.1) (fun st H Ca cl fp => (ht _ (blk_ctx c st H Ca cl fp)).2.2.2.1) (fun st H Ca cl fp => (ht _ (blk_ctx c st H Ca cl fp)).2.2.2.2.1) (fun st H Ca cl fp => (ht _ (blk_ctx c st H Ca cl fp)).2.2.2.2.2) (folded_of hns) (fun _ => folded_of hns2)
  rw [own_map] at q0
  exact pe_imp q0 (lc2_read hs)
end
end Ev
end
section
set_option maxRecDepth 100000
set_option maxHeartbeats 8000000
/-! Ev, part 15: every checked expression does what the evaluator says. -/
namespace Ev
open PySem PySem.Spec PyProof.Rows L2
theorem opB_of {o : Op} {p : Operator} (h : opB o p = true) : p = o.of := by
  cases o <;> cases p <;> first | rfl | (cases h; done)
theorem cpB_of {o : Cp} {p : CmpOp} (h : cpB o p = true) : p = o.of := by
  cases o <;> cases p <;> first | rfl | (cases h; done)
section
variable {G : Pg} {n : Nat}
/-- what of a test is shown: whatever stands around it, if it is and, or -/
structure TOk (X : Cx) (e : Expr) (t : TT) : Prop where
  pt : PT X e t
  pw : ∀ op es pos, e = .BoolOp op es pos → PW X e t
theorem TOk.of {X : Cx} {e : Expr} {t : TT} (h : PT X e t) (ne : ∀ op es pos, e ≠ .BoolOp op es pos) : TOk X e t := ⟨h, fun op es pos e => absurd e (ne op es pos)⟩
theorem TOk.bad {X : Cx} {e : Expr} {W : WX} {C : Cs} {a : Ex} (h : ∀ ρ S, evT C a ρ S = .bad) : TOk X e (tT G W (evT C a)) := by
  have h0 : ∀ σ H Q, ¬ tT G W (evT C a) σ H Q := fun σ H Q ⟨m, ρ, S, re, rs, q⟩ => by rw [h] at q; exact q.elim
  exact ⟨pt_bad h0, fun _ _ _ _ => ⟨fun _ _ _ σ H Q _ q => (h0 σ H Q q).elim⟩⟩
theorem th_as {α β γ : Type} (r : Rs α) {k : α → Store → Rs β} {j : β → Store → Rs γ} {k' : α → Store → Rs γ} {t : Tag k} {t2 : Tag j} {t3 : Tag k'} (h : ∀ a S, k' a S = (k a S).th j t2) : r.th k' t3 = (r.th k t).th j t2 := by
  cases r with
  | ok a S => exact h a S
  | ex _ _ _ => rfl
  | bad => rfl
section
variable {C : Cs} (ρ : Fr) (S : Store)
theorem tr_var {i : Nat} : evT C (.var i) ρ S = (evE C (.var i) ρ S).th fun d S1 => ofO (truD d S1) S1 := by
  simp only [evE, evT]
  split <;> rfl
theorem tr_bl {b : Bool} : evT C (.bl b) ρ S = (evE C (.bl b) ρ S).th fun d S1 => ofO (truD d S1) S1 := by
  simp only [evE, evT]
  rfl
theorem tr_call {f : Nat} {es : Exs} : evT C (.call f es) ρ S = (evE C (.call f es) ρ S).th fun d S1 => ofO (truD d S1) S1 := by
  simp only [evE, evT]
  exact th_as _ fun _ _ => rfl
theorem tr_calk {f : Nat} {es ks : Exs} {pm : List Nat} : evT C (.calk f es ks pm) ρ S = (evE C (.calk f es ks pm) ρ S).th fun d S1 => ofO (truD d S1) S1 := by
  simp only [evE, evT]
  refine th_as _ fun ds S1 => ?_
  refine th_as _ fun zs S2 => ?_
  exact th_as _ fun _ _ => rfl
theorem tr_mth {f : Nat} {a : Ex} {es : Exs} : evT C (.mth a f es) ρ S = (evE C (.mth a f es) ρ S).th fun d S1 => ofO (truD d S1) S1 := by
  simp only [evE, evT]
  refine th_as _ fun ds S1 => ?_
  refine th_as _ fun zs S2 => ?_
  exact th_as _ fun _ _ => rfl
theorem tr_bi {b : Bi} {m : Bool} {es : Exs} : evT C (.bi b m es) ρ S = (evE C (.bi b m es) ρ S).th fun d S1 => ofO (truD d S1) S1 := by
  simp only [evE, evT]
  exact th_as _ fun _ _ => rfl
theorem tr_isI {a : Ex} {ts : List Ty} {p : Bool} : evT C (.isI a ts p) ρ S = (evE C (.isI a ts p) ρ S).th fun d S1 => ofO (truD d S1) S1 := by
  simp only [evE, evT]
  refine th_as _ fun ds S1 => ?_
  cases isAny C.T ds S1 ts <;> rfl
theorem tr_idx {a b : Ex} : evT C (.idx a b) ρ S = (evE C (.idx a b) ρ S).th fun d S1 => ofO (truD d S1) S1 := by
  simp only [evE, evT]
  refine th_as _ fun ds S1 => ?_
  exact th_as _ fun _ _ => rfl
theorem tr_att {a : Ex} {f : Nat} : evT C (.att a f) ρ S = (evE C (.att a f) ρ S).th fun d S1 => ofO (truD d S1) S1 := by
  simp only [evE, evT]
  exact th_as _ fun _ _ => rfl
theorem tr_bin {op : Op} {m : Bool} {a b : Ex} : evT C (.bin op m a b) ρ S = (evE C (.bin op m a b) ρ S).th fun d S1 => ofO (truD d S1) S1 := by
  simp only [evE, evT]
  refine th_as _ fun ds S1 => ?_
  exact th_as _ fun _ _ => rfl
end
theorem both {X : Cx} {e : Expr} {t : TE} {u : TT} (h : PE X e t) (g : PE X e t → TOk X e u) : PE X e t ∧ TOk X e u := ⟨h, g h⟩
variable (hd : Hd G) (np : NpOk G) {C : Cs} (hC : C = csOf G.T n)
include hd np hC
mutual
theorem okE : ∀ (a : Ex) (s : Sx) (W : WX) (X : Cx) (e : Expr), Ctx G n X s W → chkE G.M a s e = true → PE X e (tE G W (evE C a)) ∧ TOk X e (tT G W (evT C a))
  | .var i, s, W, X, e, c, h => by
    simp only [chkE] at h
    split at h
    · rename_i nm pp
      have q : PE X (.Name nm pp) (tE G W (evE C (.var i))) := r_var c h
      exact ⟨q, TOk.of (r_truth c q (fun ρ S => tr_var ρ S) fun _ => rfl) (by intro _ _ _ z; cases z)⟩
    · cases h
  | .non, s, W, X, e, c, h => by
    simp only [chkE] at h
    split at h
    · exact ⟨r_const pe_non (fun ρ S => by simp only [evE]) fun _ _ => rep_non, TOk.bad fun _ _ => by simp only [evT]⟩
    · cases h
  | .bl b, s, W, X, e, c, h => by
    simp only [chkE] at h
    split at h
    · rename_i d jj pp
      simp only [beq_iff_eq] at h
      subst h
      have q : PE X (.Constant (.bool b) jj pp) (tE G W (evE C (.bl b))) := r_const (d := .bl b) (v := .bl b) pe_bl (fun ρ S => by simp only [evE]) fun _ _ => rep_bl
      exact ⟨q, TOk.of (r_truth c q (fun ρ S => tr_bl ρ S) fun _ => rfl) (by intro _ _ _ z; cases z)⟩
    · cases h
  | .int i, s, W, X, e, c, h => by
    simp only [chkE] at h
    split at h
    · simp only [decide_eq_true_eq] at h
      subst h
      exact ⟨r_const pe_int (fun ρ S => by simp only [evE]) fun _ _ => rep_int, TOk.bad fun _ _ => by simp only [evT]⟩
    · cases h
  | .str t, s, W, X, e, c, h => by
    simp only [chkE] at h
    split at h
    · simp only [decide_eq_true_eq] at h
      subst h
      exact ⟨r_const pe_str (fun ρ S => by simp only [evE]) fun _ _ => rep_str, TOk.bad fun _ _ => by simp only [evT]⟩
    · cases h
  | .glb g, s, W, X, e, c, h => by
    simp only [chkE] at h
    split at h
    · simp only [Bool.and_eq_true, decide_eq_true_eq] at h
      exact ⟨r_glb hd c (by rw [hC, csOf_T]) h.1 h.2, TOk.bad fun _ _ => by simp only [evT]⟩
    · cases h
  | .bin op m a b, s, W, X, e, c, h => by
    simp only [chkE] at h
    split at h
    · simp only [Bool.and_eq_true] at h
      rw [opB_of h.1]
      exact both (r_bin c (okE a s W X _ c h.2.1).1 (okE b s W X _ c h.2.2).1) fun q => TOk.of (r_truth c q (fun ρ S => tr_bin ρ S) fun _ => rfl) (by intro _ _ _ z; cases z)
    · cases h
  | .neg a, s, W, X, e, c, h => by
    simp only [chkE] at h
    split at h
    · exact ⟨r_neg (okE a s W X _ c h).1, TOk.bad fun _ _ => by simp only [evT]⟩
    · cases h
  | .cmp op a b, s, W, X, e, c, h => by
    simp only [chkE] at h
    split at h
    · simp only [Bool.and_eq_true] at h
      rw [cpB_of h.1]
      exact ⟨r_cmp c op (okE a s W X _ c h.2.1).1 (okE b s W X _ c h.2.2).1 (noSet_of h.2.2), TOk.of (r_cmpT c op (okE a s W X _ c h.2.1).1 (okE b s W X _ c h.2.2).1 (noSet_of h.2.2)) (by intro _ _ _ z; cases z)⟩
    · cases h
  | .chn o1 o2 a b d, s, W, X, e, c, h => by
    simp only [chkE] at h
    split at h
    · simp only [Bool.and_eq_true] at h
      rw [cpB_of h.1, cpB_of h.2.1]
      exact ⟨r_chn c o1 o2 (okE a s W X _ c h.2.2.1).1 (okE b s W X _ c h.2.2.2.1).1 (okE d s W X _ c h.2.2.2.2).1 (noSet_of h.2.2.2.2), TOk.of (r_chnT c o1 o2 (okE a s W X _ c h.2.2.1).1 (okE b s W X _ c h.2.2.2.1).1 (okE d s W X _ c h.2.2.2.2).1 (noSet_of h.2.2.2.2)) (by intro _ _ _ z; cases z)⟩
    · cases h
  | .isN k a, s, W, X, e, c, h => by
    simp only [chkE] at h
    split at h
    · simp only [Bool.and_eq_true] at h
      have ha := (okE a s W X _ c h.2).1
      rename_i x0 p0 _ _ _
      have ho : p0 = if k then CmpOp.IsNot else CmpOp.Is := by
        obtain ⟨h, _⟩ := h
        split at h
        · exact rfl
        · exact rfl
        · cases h
      exact ⟨r_isN k (j := 0) (p2 := default) (kd := none) ha ho pe_non rfl, TOk.of (r_isNT k ha ho pe_non rfl) (by intro _ _ _ z; cases z)⟩
    · cases h
  | .and a b, s, W, X, e, c, h => by
    simp only [chkE] at h
    split at h
    · rename_i x y r pos
      simp only [Bool.and_eq_true] at h
      have h2' := okE b s W X _ c h.2
      have h2 := h2'.1
      have h1 := okE a s W X _ c h.1
      have qw : PW X (.BoolOp .And (x :: y :: r) pos) (tT G W (evT C (.and a b))) := by
        cases r with
        | nil => exact pw_imp (pw_and h1.2.pt (pw_and1 h2'.2.pt)) (t_and fun _ _ _ q => q)
        | cons z r => exact pw_imp (pw_and h1.2.pt (h2'.2.pw _ _ _ rfl)) (t_and fun _ _ _ q => q)
      refine ⟨r_and c h1.1 ?_, ⟨qw.pt, fun op es p' e => by cases e; exact qw⟩⟩
      cases r with
      | nil => exact pe_one h2
      | cons z r => exact h2
    · cases h
  | .or a b, s, W, X, e, c, h => by
    simp only [chkE] at h
    split at h
    · rename_i x y r pos
      simp only [Bool.and_eq_true] at h
      have h2' := okE b s W X _ c h.2
      have h2 := h2'.1
      have h1 := okE a s W X _ c h.1
      have qw : PW X (.BoolOp .Or (x :: y :: r) pos) (tT G W (evT C (.or a b))) := by
        cases r with
        | nil => exact pw_imp (pw_or h1.2.pt (pw_or1 h2'.2.pt)) (t_or fun _ _ _ q => q)
        | cons z r => exact pw_imp (pw_or h1.2.pt (h2'.2.pw _ _ _ rfl)) (t_or fun _ _ _ q => q)
      refine ⟨r_or c h1.1 ?_, ⟨qw.pt, fun op es p' e => by cases e; exact qw⟩⟩
      cases r with
      | nil => exact pe_one h2
      | cons z r => exact h2
    · cases h
  | .not a, s, W, X, e, c, h => by
    simp only [chkE] at h
    split at h
    · exact ⟨r_not c (okE a s W X _ c h).1, TOk.of (r_notT (okE a s W X _ c h).2.pt) (by intro _ _ _ z; cases z)⟩
    · cases h
  | .ife d a b, s, W, X, e, c, h => by
    simp only [chkE] at h
    split at h
    · simp only [Bool.and_eq_true] at h
      exact ⟨r_ife (okE d s W X _ c h.1).2.pt (okE a s W X _ c h.2.1).1 (okE b s W X _ c h.2.2).1, TOk.bad fun _ _ => by simp only [evT]⟩
    · cases h
  | .tup es, s, W, X, e, c, h => by
    simp only [chkE] at h
    split at h
    · simp only [Bool.and_eq_true, decide_eq_true_eq] at h
      exact ⟨r_tup (okL es s W X _ c h.2) (by rw [← lim]; exact h.1) (len_of h.2), TOk.bad fun _ _ => by simp only [evT]⟩
    · cases h
  | .lst m es, s, W, X, e, c, h => by
    simp only [chkE] at h
    split at h
    · simp only [Bool.and_eq_true, decide_eq_true_eq] at h
      exact ⟨r_lst (okL es s W X _ c h.2) (by rw [← lim]; exact h.1) (len_of h.2), TOk.bad fun _ _ => by simp only [evT]⟩
    · cases h
  | .idx a b, s, W, X, e, c, h => by
    simp only [chkE] at h
    split at h
    · simp only [Bool.and_eq_true] at h
      exact both (r_idx c (okE a s W X _ c h.2.1).1 (okE b s W X _ c h.2.2).1 h.1) fun q => TOk.of (r_truth c q (fun ρ S => tr_idx ρ S) fun _ => rfl) (by intro _ _ _ z; cases z)
    · cases h
  | .slc m a lo hi, s, W, X, e, c, h => by
    simp only [chkE] at h
    split at h
    · simp only [Bool.and_eq_true] at h
      exact ⟨r_slc c (okE a s W X _ c h.1).1 (okI lo s W X _ c h.2.1) (okI hi s W X _ c h.2.2), TOk.bad fun _ _ => by simp only [evT]⟩
    · cases h
  | .att a f, s, W, X, e, c, h => by
    simp only [chkE] at h
    split at h
    · simp only [Bool.and_eq_true, decide_eq_true_eq] at h
      exact both (r_att hd c (by rw [hC, csOf_T]) h.1 (okE a s W X _ c h.2).1 (chk_form _ _ _ h.2).2.2) fun q => TOk.of (r_truth c q (fun ρ S => tr_att ρ S) fun _ => rfl) (by intro _ _ _ z; cases z)
    · cases h
  | .call f es, s, W, X, e, c, h => by
    simp only [chkE] at h
    split at h
    · simp only [Bool.and_eq_true, decide_eq_true_eq] at h
      exact both (r_call hd np c hC h.1 h.2.1 h.2.2 (okL es s W X _ c h.2.2) (hd.fnl _ (List.getElem?_eq_some_iff.mp h.2.1).1)) fun q => TOk.of (r_truth c q (fun ρ S => tr_call ρ S) fun _ => rfl) (by intro _ _ _ z; cases z)
    · cases h
  | .calk f es ks pm, s, W, X, e, c, h => by
    simp only [chkE] at h
    split at h
    · simp only [Bool.and_eq_true, decide_eq_true_eq] at h
      obtain ⟨h1, h2, h3, h4, h5, h6⟩ := h
      exact both (r_calk hd np c hC h1 h2 h3 (okL es s W X _ c h3) h5 (okK ks s W X _ c h4) h4 (List.contains_iff_mem.mp h6)) fun q => TOk.of (r_truth c q (fun ρ S => tr_calk ρ S) fun _ => rfl) (by intro _ _ _ z; cases z)
    · cases h
  | .mak m k es, s, W, X, e, c, h => by
    simp only [chkE] at h
    split at h
    · simp only [Bool.and_eq_true, decide_eq_true_eq] at h
      exact ⟨r_mak hd np c hC h.1 h.2.1 h.2.2 (okL es s W X _ c h.2.2), TOk.bad fun _ _ => by simp only [evT]⟩
    · cases h
  | .makk m k es ks pm, s, W, X, e, c, h => by
    simp only [chkE] at h
    split at h
    · simp only [Bool.and_eq_true, decide_eq_true_eq] at h
      obtain ⟨h1, h2, h3, h4, h5, h6⟩ := h
      exact ⟨r_makk hd np c hC h1 h2 h3 (okL es s W X _ c h3) h5 (okK ks s W X _ c h4) h4 (List.contains_iff_mem.mp h6), TOk.bad fun _ _ => by simp only [evT]⟩
    · cases h
  | .mth a f es, s, W, X, e, c, h => by
    simp only [chkE] at h
    split at h
    · simp only [Bool.and_eq_true, decide_eq_true_eq] at h
      obtain ⟨h1, h2, h3, h4, h5⟩ := h
      exact both (r_mth hd np c hC h1 h5 (okE a s W X _ c h3).1 (chk_form _ _ _ h3).2.2 (okL es s W X _ c h5) h4 h2) fun q => TOk.of (r_truth c q (fun ρ S => tr_mth ρ S) fun _ => rfl) (by intro _ _ _ z; cases z)
    · cases h
  | .bi b m es, s, W, X, e, c, h => by
    simp only [chkE] at h
    split at h
    · simp only [Bool.and_eq_true, decide_eq_true_eq] at h
      obtain ⟨h1, h2, h3⟩ := h
      subst h2
      exact both (r_bi hd c h1 h3 (okL es s W X _ c h3)) fun q => TOk.of (r_truth c q (fun ρ S => tr_bi ρ S) fun _ => rfl) (by intro _ _ _ z; cases z)
    · cases h
  | .isI a ts p, s, W, X, e, c, h => by
    simp only [chkE] at h
    split at h
    · simp only [Bool.and_eq_true, decide_eq_true_eq] at h
      obtain ⟨h1, h2, h3, h4⟩ := h
      subst h2
      have ha := (okE a s W X _ c h3).1
      have hx := (chk_form _ _ _ h3).1
      refine both ?_ fun q => TOk.of (r_truth c q (fun ρ S => tr_isI ρ S) fun _ => rfl) (by intro _ _ _ z; cases z)
      split at h4
      · split at h4
        · exact r_isI1 hd c (by rw [hC, csOf_T]) h1 ha hx h4
        · cases h4
      · split at h4
        · simp only [Bool.and_eq_true, Bool.not_eq_true', decide_eq_true_eq, List.isEmpty_eq_false_iff] at h4
          exact r_isIT hd c (by rw [hC, csOf_T]) h1 ha hx h4.2.2 (by rw [← lim]; exact h4.2.1) h4.1
        · cases h4
    · cases h
  | .bm b a es, s, W, X, e, c, h => by
    simp only [chkE] at h
    split at h
    · simp only [Bool.and_eq_true, decide_eq_true_eq] at h
      obtain ⟨h1, h2, h3, h4, h5⟩ := h
      subst h1
      exact ⟨r_bm c h5 (okE a s W X _ c h3).1 (chk_form _ _ _ h3).2.2 (okL es s W X _ c h5) h4 h2, TOk.bad fun _ _ => by simp only [evT]⟩
    · cases h
  | .lc m own tg it d e0, s, W, X, e, c, h => by
    simp only [chkE] at h
    split at h
    · simp only [Bool.and_eq_true] at h
      obtain ⟨h1, h2, h3, h4, h5, h6⟩ := h
      refine ⟨?_, TOk.bad fun _ _ => by simp only [evT]⟩
      refine r_lc c (okW it s W X _ _ c h4) (chkW_set _ _ _ _ h4) (by rw [← c.N, ← c.sc] at h1 ⊢; exact h1) ?_ fun X' c' => ⟨r_tg c' h2, okC d _ _ X' _ c' h5, (okE e0 _ _ X' _ c' h6).1⟩
      intro i hi
      cases tg with
      | nm j =>
        simp only [idxs, List.mem_singleton] at hi
        subst hi
        exact List.contains_iff_mem.mp h3
      | tp js => exact List.contains_iff_mem.mp (List.all_eq_true.mp h3 i hi)
    · cases h
  | .lc2 m own tg it d tg2 it2 d2 e0, s, W, X, e, c, h => by
    simp only [chkE] at h
    split at h
    · simp only [Bool.and_eq_true] at h
      obtain ⟨h1, h2, h3, h4, h5, h6, h7, h8, h9, h10⟩ := h
      refine ⟨?_, TOk.bad fun _ _ => by simp only [evT]⟩
      exact r_lc2 c (okW it s W X _ _ c h4) (chkW_set _ _ _ _ h4) (chkW_set _ _ _ _ h8) (by rw [← c.N, ← c.sc] at h1 ⊢; exact h1) (fun i hi => List.contains_iff_mem.mp (List.all_eq_true.mp h3 i (by rw [idxs_eq]; exact hi))) (fun i hi => List.contains_iff_mem.mp (List.all_eq_true.mp h7 i (by rw [idxs_eq]; exact hi))) fun X' c' => ⟨r_tg c' h2, okC d _ _ X' _ c' h5, okW it2 _ _ X' _ _ c' h8, r_tg c' h6, okC d2 _ _ X' _ c' h9, (okE e0 _ _ X' _ c' h10).1⟩
    · cases h
theorem okL : ∀ (l : Exs) (s : Sx) (W : WX) (X : Cx) (es : List Expr), Ctx G n X s W → chkL G.M l s es = true → PA X es (tL G W (evL C l))
  | .nil, s, W, X, es, c, h => by
    simp only [chkL, List.isEmpty_iff] at h
    subst h
    exact r_nil
  | .cons a l, s, W, X, es, c, h => by
    simp only [chkL] at h
    split at h
    · simp only [Bool.and_eq_true] at h
      exact r_cons ((okE a s W X _ c h.1).1) (chk_form _ _ _ h.1).1 (okL l s W X _ c h.2)
    · cases h
theorem okK : ∀ (l : Exs) (s : Sx) (W : WX) (X : Cx) (qs : List Keyword), Ctx G n X s W → chkL G.M l s (kwE qs) = true → PK X qs (tL G W (evL C l))
  | .nil, s, W, X, qs, c, h => by
    simp only [chkL, List.isEmpty_iff] at h
    cases qs with
    | nil => exact r_knil
    | cons q qs => cases h
  | .cons a l, s, W, X, qs, c, h => by
    cases qs with
    | nil => simp [chkL, kwE] at h
    | cons q qs =>
      simp only [chkL, kwE, Bool.and_eq_true] at h
      obtain ⟨nm, e, kp⟩ := q
      exact r_kcons (okE a s W X _ c h.1).1 (okK l s W X _ c h.2)
theorem okI : ∀ (a : Exo) (s : Sx) (W : WX) (X : Cx) (o : Option Expr), Ctx G n X s W → chkO G.M a s o = true → PO X o (tI G W (evI C a))
  | .no, s, W, X, o, c, h => by
    simp only [chkO, Option.isNone_iff_eq_none] at h
    subst h
    exact r_no
  | .yes a, s, W, X, o, c, h => by
    simp only [chkO] at h
    split at h
    · exact r_yes (okE a s W X _ c h).1
    · cases h
theorem okC : ∀ (a : Exo) (s : Sx) (W : WX) (X : Cx) (es : List Expr), Ctx G n X s W → chkI G.M a s es = true → PTs X es (tT G W (evC C a))
  | .no, s, W, X, es, c, h => by
    simp only [chkI, List.isEmpty_iff] at h
    subst h
    exact ⟨fun pins st σ H Q I ⟨m, ρ, S, re, rs, q⟩ => pts_nil.run pins st σ H Q I (by
      simp only [evC] at q
      exact q.at_ok rs rfl)⟩
  | .yes a, s, W, X, es, c, h => by
    simp only [chkI] at h
    split at h
    · have q := pts_one (okE a s W X _ c h).2.pt
      exact ⟨fun pins st σ H Q I ⟨m, ρ, S, re, rs, q1⟩ => q.run pins st σ H Q I ⟨m, ρ, S, re, rs, by simp only [evC] at q1; exact q1⟩⟩
    · cases h
theorem okW : ∀ (it : Iter) (s : Sx) (W : WX) (X : Cx) (tg e : Expr), Ctx G n X s W → chkW G.M it s tg e = true → PI X tg e (tW G W (evW C it))
  | .seq a, s, W, X, tg, e, c, h => by
    simp only [chkW] at h
    exact w_seq c (okE a s W X _ c h).1
  | .rng es, s, W, X, tg, e, c, h => by
    simp only [chkW] at h
    split at h
    · simp only [Bool.and_eq_true, Bool.or_eq_true, decide_eq_true_eq] at h
      obtain ⟨h1, h2, h3, h4⟩ := h
      subst h2
      exact w_rng hd c h1 h4 h3 (okL es s W X _ c h4)
    · cases h
  | .enm a, s, W, X, tg, e, c, h => by
    simp only [chkW] at h
    split at h
    · simp only [Bool.and_eq_true, Bool.not_eq_true', decide_eq_true_eq] at h
      obtain ⟨⟨h0, h1⟩, h2, h3⟩ := h
      subst h2
      cases tg <;> first
        | exact w_enm hd c h1 (okE a s W X _ c h3).1 (chk_form _ _ _ h3).1
        | (simp [notTuple] at h0; done)
    · cases h
  | .zip a b, s, W, X, tg, e, c, h => by
    simp only [chkW] at h
    split at h
    · simp only [Bool.and_eq_true, Bool.not_eq_true', decide_eq_true_eq] at h
      obtain ⟨⟨h0, h1⟩, h2, h3, h4⟩ := h
      subst h2
      cases tg <;> first
        | exact w_zip hd c h1 (okE a s W X _ c h3).1 (chk_form _ _ _ h3).1 (okE b s W X _ c h4).1 (chk_form _ _ _ h4).1
        | (simp [notTuple] at h0; done)
    · cases h
  | .rev a, s, W, X, tg, e, c, h => by
    simp only [chkW] at h
    split at h
    · simp only [Bool.and_eq_true, decide_eq_true_eq] at h
      obtain ⟨h1, h2, h3⟩ := h
      subst h2
      exact w_rev hd c h1 (okE a s W X _ c h3).1 (chk_form _ _ _ h3).1
    · cases h
end
end
end Ev
end
section
set_option maxRecDepth 100000
set_option maxHeartbeats 8000000
/-! Ev, part 16: the rules of statements. -/
namespace Ev
open PySem PySem.Spec PyProof.Rows L2
def FinS (G : Pg) (W : WX) (m : List Addr) (H : Hp) (r : Os) (D : Ends) : Prop := match r with
  | .nx ρ' S' => ∀ m' H' σ', Ext m H m' H' → RE G m' H' ρ' σ' → RS G m' H' S' → D.nx σ' H'
  | .rt d S' => ∀ m' H' v, Ext m H m' H' → RS G m' H' S' → Rep G m' H' d v → D.rt v H'
  | .bk ρ' S' => ∀ m' H' σ', Ext m H m' H' → RE G m' H' ρ' σ' → RS G m' H' S' → D.bk σ' H'
  | .ct ρ' S' => ∀ m' H' σ', Ext m H m' H' → RE G m' H' ρ' σ' → RS G m' H' S' → D.ct σ' H'
  | .ex c l ρ' S' => ∀ m' H' dx σ', Ext m H m' H' → RE G m' H' ρ' σ' → RS G m' H' S' → XRep G m' H' c l dx → W (.ref (G.xa c)) (some dx) σ' H'
  | .bad => False
theorem FinS.ext {G : Pg} {W : WX} {m m' : List Addr} {H H' : Hp} {r : Os} {D : Ends} (x : Ext m H m' H') (h : FinS G W m H r D) : FinS G W m' H' r D := by
  cases r with
  | nx ρ S => exact fun m2 H2 σ x2 => h m2 H2 σ (x.trans x2)
  | rt d S => exact fun m2 H2 v x2 => h m2 H2 v (x.trans x2)
  | bk ρ S => exact fun m2 H2 σ x2 => h m2 H2 σ (x.trans x2)
  | ct ρ S => exact fun m2 H2 σ x2 => h m2 H2 σ (x.trans x2)
  | ex c l ρ S => exact fun m2 H2 dx σ x2 => h m2 H2 dx σ (x.trans x2)
  | bad => exact h
def tS (G : Pg) (W : WX) (ex : Fr → Store → Os) : TS := fun D σ H => ∃ m ρ S, RE G m H ρ σ ∧ RS G m H S ∧ FinS G W m H (ex ρ S) D
theorem tS.go {G : Pg} {W : WX} {σ : L2.St} {m : List Addr} {H : Hp} {S : Store} {ρ ρ0 : Fr} {α β : Type} {R : List Addr → Hp → α → β → Prop} {ev : Fr → Store → Rs α} {k : α → Store → Os} {t : Tag k} {D : Ends} {Q' : β → Hp → Prop} (re : RE G m H ρ σ) (re0 : RE G m H ρ0 σ) (rs : RS G m H S)
    (h : FinS G W m H ((ev ρ S).os ρ0 k t) D) (q : ∀ a S' m' H' v, ev ρ S = .ok a S' → Ext m H m' H' → RE G m' H' ρ σ → RE G m' H' ρ0 σ → RS G m' H' S' → R m' H' a v → FinS G W m' H' (k a S') D → Q' v H') : tX G W R ev σ H Q' :=
  ⟨m, ρ, S, re, rs, by
    cases e : ev ρ S with
    | ok a S' =>
      rw [e] at h
      intro m' H' v x rs' r
      exact q a S' m' H' v e x (re.mono x) (re0.mono x) rs' r (FinS.ext x h)
    | ex c l S' =>
      rw [e] at h
      exact fun m' H' dx x rs' xr => h m' H' dx σ x (re0.mono x) rs' xr
    | bad => rw [e] at h; exact h⟩
structure CtxS (G : Pg) (n : Nat) (X : Cx) (s : Sx) (W : WX) : Prop where
  c : Ctx G n X s W
  po : PassesOwn (model X.prog X.w) X.A X.env X.xe
  stk : X.stack = X.env :: X.outer
  fr : X.env.frame = some X.env.locals
  kd : s.sc.kind = .function
theorem CtxS.tr {G : Pg} {n : Nat} {X : Cx} {s : Sx} {W W1 : WX} (c : CtxS G n X s W) {pn : List (Addr × Obj)} {xe : Value → Shared → Prop} (tk : Takes (X.tr pn xe) W1) (po : PassesOwn (model X.prog X.w) X.A X.env xe) : CtxS G n (X.tr pn xe) s W1 :=
  ⟨⟨c.c.prog, c.c.w, c.c.K, c.c.mg, c.c.base, c.c.N, c.c.nd, c.c.sc, c.c.fn, c.c.calm, tk, c.c.room, c.c.lv, c.c.lv1⟩, po, c.stk, c.fr, c.kd⟩
section
variable {X : Cx}
theorem ps_imp {st : Stmt} {t t' : TS} (h : PS X st t) (i : ∀ D σ H, t' D σ H → t D σ H) : PS X st t' := ⟨fun pins s σ H D I q => h.run pins s σ H D I (i D σ H q)⟩
theorem pss_imp {st : List Stmt} {t t' : TS} (h : PSs X st t) (i : ∀ D σ H, t' D σ H → t D σ H) : PSs X st t' := ⟨fun pins s σ H D I q => h.run pins s σ H D I (i D σ H q)⟩
end
section
variable {G : Pg} {n : Nat} {X : Cx} {s : Sx} {W : WX} {C : Cs} {e x y z : Expr} {p pos apos : Pos} {a b : Ex} {es : List Expr} {l l2 : Exs}
theorem s_nil : PSs X [] (tS G W (exSs C .nil)) := pss_imp pss_nil fun D σ H ⟨m, ρ, S, re, rs, q⟩ => by
  simp only [exSs] at q
  exact q m H σ Ext.refl re rs
theorem s_cons {st : Stmt} {sts : List Stmt} {a : Ev.St} {b : Sts} (h1 : PS X st (tS G W (exS C a))) (h2 : PSs X sts (tS G W (exSs C b))) : PSs X (st :: sts) (tS G W (exSs C (.cons a b))) :=
  pss_imp (pss_cons h1 h2) fun D σ H ⟨m, ρ, S, re, rs, q⟩ => by
    simp only [exSs] at q
    refine ⟨m, ρ, S, re, rs, ?_⟩
    cases e : exS C a ρ S with
    | nx ρ1 S1 =>
      rw [e] at q
      exact fun m' H' σ' x re' rs' => ⟨m', ρ1, S1, re', rs', FinS.ext x q⟩
    | rt d S1 => rw [e] at q; exact q
    | bk ρ1 S1 => rw [e] at q; exact q
    | ct ρ1 S1 => rw [e] at q; exact q
    | ex c l ρ1 S1 => rw [e] at q; exact q
    | bad => rw [e] at q; exact q
/-- is a comprehension's value dropped for a store? -/
theorem sw_none {e : Expr} {l : Nat} {t : Option Expr} {env : Env} (h : notComp e = true) : swapsWith e t l env = pure false := by
  cases e <;> first | rfl | (simp [notComp] at h)
theorem sw_other {e t : Expr} {l : Nat} {env : Env} (h : ∀ x p, t ≠ .Name x p) : swapsWith e (some t) l env = pure false := by
  cases e <;> first
    | rfl
    | (cases t <;> first | rfl | exact absurd rfl (h _ _))
theorem sw_sole {e t : Expr} {l : Nat} {env : Env} (h : ∀ x p, t ≠ .Name x p) : swapsWithSole [t] e l env = pure false := by
  show swapsWith e (some t) l env = pure false
  exact sw_other h
theorem set_tree {o i : Expr} {p2 : Pos} {env : Env} (h : notSlice i = true) (v : Value) : assign (.Subscript o i p2) env v = (do
    let ov ← holding [v] (eval o env)
    let iv ← holding [v, ov] (eval i env)
    standAt p2
    holding [v, ov, iv] (setItem ov iv v)
    release [v, ov, iv] []) := by
  cases i <;> first | rfl | (simp [notSlice] at h)
theorem s_ex (ha : PE X x (tE G W (evE C a))) (hn : notComp x = true) : PS X (.Expr x pos) (tS G W (exS C (.ex a))) :=
  ps_imp (ps_expr ha (sw_none hn)) fun D σ H ⟨m, ρ, S, re, rs, q⟩ => by
    simp only [exS] at q
    exact tS.go re re rs q fun d S1 m1 H1 v1 _ x1 re1 _ rs1 r1 q1 => q1 m1 H1 σ Ext.refl re1 rs1
theorem s_ret (ha : PE X x (tE G W (evE C a))) : PS X (.Return (some x) pos) (tS G W (exS C (.ret a))) :=
  ps_imp (ps_ret ha) fun D σ H ⟨m, ρ, S, re, rs, q⟩ => by
    simp only [exS] at q
    exact tS.go re re rs q fun d S1 m1 H1 v1 _ x1 re1 _ rs1 r1 q1 => q1 m1 H1 v1 Ext.refl rs1 r1
theorem s_retN : PS X (.Return none pos) (tS G W (exS C .retN)) :=
  ps_imp ps_retN fun D σ H ⟨m, ρ, S, re, rs, q⟩ => by
    simp only [exS] at q
    exact q m H _ Ext.refl rs rep_non
theorem s_pas : PS X (.Pass pos) (tS G W (exS C .pas)) :=
  ps_imp ps_pass fun D σ H ⟨m, ρ, S, re, rs, q⟩ => by
    simp only [exS] at q
    exact q m H σ Ext.refl re rs
theorem s_brk : PS X (.Break pos) (tS G W (exS C .brk)) :=
  ps_imp ps_break fun D σ H ⟨m, ρ, S, re, rs, q⟩ => by
    simp only [exS] at q
    exact q m H σ Ext.refl re rs
theorem s_cnt : PS X (.Continue pos) (tS G W (exS C .cnt)) :=
  ps_imp ps_continue fun D σ H ⟨m, ρ, S, re, rs, q⟩ => by
    simp only [exS] at q
    exact q m H σ Ext.refl re rs
theorem s_if {c0 : Ex} {A B : Sts} {p q : List Stmt} (hc : PT X x (tT G W (evT C c0))) (ha : PSs X p (tS G W (exSs C A))) (hb : PSs X q (tS G W (exSs C B))) : PS X (.If x p q pos) (tS G W (exS C (.ife c0 A B))) :=
  ps_imp (ps_if hc ha hb) fun D σ H ⟨m, ρ, S, re, rs, q⟩ => by
    simp only [exS] at q
    refine tS.go re re rs q fun k S1 m1 H1 k1 _ x1 re1 _ rs1 r1 q1 => ?_
    have e : k = k1 := r1
    subst e
    cases k with
    | true => exact ⟨m1, ρ, S1, re1, rs1, q1⟩
    | false => exact ⟨m1, ρ, S1, re1, rs1, q1⟩
theorem g_name {i : Nat} {D : Ends} {σ : L2.St} {m : List Addr} {H : Hp} {ρ : Fr} {S : Store} {d : Ev.D} {v : V} (re : RE G m H ρ σ) (rs : RS G m H S) (r : Rep G m H d v) (q : FinS G W m H (.nx (setS ρ i d) S) D) : gName i v σ H D.nx :=
  q m H _ Ext.refl (re.set r) rs
theorem s_asg (c : CtxS G n X s W) {i : Nat} {nm : Str} {px : Pos} (ha : PE X x (tE G W (evE C a))) (hp : putB s i nm = true) (hs : swapsWith x (some (.Name nm px)) pos.line X.env = pure false) : PS X (.Assign [.Name nm px] x pos) (tS G W (exS C (.asg i a))) := by
  obtain ⟨p1, p2, p3⟩ := c.c.put hp
  refine ps_imp (ps_set c.c.nN p1 p2 ha hs p3) fun D σ H ⟨m, ρ, S, re, rs, q⟩ => ?_
  simp only [exS] at q
  exact tS.go re re rs q fun d S1 m1 H1 v1 _ x1 re1 _ rs1 r1 q1 => g_name re1 rs1 r1 q1
theorem s_asgT (c : CtxS G n X s W) {is : List Nat} {ts : List Expr} {k : Nat} {pt : Pos} (ha : PE X x (tE G W (evE C a))) (hp : tgsB s is ts = true) (hw : swappedStores [.Tuple ts k pt] x X.env = pure none) : PS X (.Assign [.Tuple ts k pt] x pos) (tS G W (exS C (.asgT is a))) := by
  have pg := r_tg (tg := .Tuple ts k pt) c.c (t := .tp is) (by simp only [tgB]; exact hp)
  refine ps_imp (ps_asg ha pg (sw_sole (by intro _ _ h; cases h)) hw rfl) fun D σ H ⟨m, ρ, S, re, rs, q⟩ => ?_
  simp only [exS] at q
  refine tS.go re re rs q fun d S1 m1 H1 v1 _ x1 re1 _ rs1 r1 q1 => ?_
  split at q1
  · rename_i ρ1 e1
    exact ⟨m1, ρ, S1, d, ρ1, re1, rs1, r1, e1, fun σ' re' _ => q1 m1 H1 σ' Ext.refl re' rs1⟩
  · exact q1.elim
theorem s_asgI (c : CtxS G n X s W) {o i0 : Ex} {p2 : Pos} (ho : PE X y (tE G W (evE C o))) (hi : PE X z (tE G W (evE C i0))) (ha : PE X x (tE G W (evE C a))) (hz : notSlice z = true) : PS X (.Assign [.Subscript y z p2] x pos) (tS G W (exS C (.asgI o i0 a))) :=
  ps_imp (ps_asg ha (pg_sub ho hi (set_cell (G := G)) (set_tree hz)) (sw_sole (by intro _ _ h; cases h)) rfl rfl) fun D σ H ⟨m, ρ, S, re, rs, q⟩ => by
    simp only [exS] at q
    refine tS.go re re rs q fun d S1 m1 H1 v1 _ x1 re1 _ rs1 r1 q1 => ?_
    refine tS.go re1 re1 rs1 q1 fun d2 S2 m2 H2 v2 _ x2 re2 _ rs2 r2 q2 => ?_
    refine tS.go re2 re2 rs2 q2 fun d3 S3 m3 H3 v3 _ x3 re3 _ rs3 r3 q3 => ?_
    split at q3
    · rename_i S4 e4
      exact ⟨m3, S3, d2, d3, d, S4, rs3, Rep.mono x3 _ _ r2, r3, Rep.mono (x2.trans x3) _ _ r1, e4, fun H' x' rs' => q3 m3 H' σ x' (re3.mono x') rs'⟩
    · exact q3.elim
/-- xs[i] as it is read ahead of xs[i] += e -/
theorem get_cell : PGet X (fun o i H Q => ∃ p xs j v, o = .ref p ∧ i = .int j ∧ SqL X.K H p xs ∧ atI xs j = some v ∧ Q v H) := by
  intro pins s σ H o i ov iv Q I ro ri h
  obtain ⟨p, xs, j, z, rfl, rfl, hq, he, q⟩ := h
  cases ro
  obtain ⟨t, rfl⟩ := ri
  obtain ⟨its, r, pl, hz⟩ := I.list hq
  obtain ⟨k, h1, h2, h3, h4, h5⟩ := atI_get he
  obtain ⟨w, ew, rw'⟩ := r.get h2
  have hl := r.length
  have hn := line63
  have fin : EP X pins σ Q w s := ⟨z, H, I, rw', q⟩
  by_cases h0 : 0 ≤ j
  · have hj : j.toNat = k := by
      rw [seqIndex_of h0 h5] at h1
      exact Option.some.inj h1
    exact wpAny_getItem_list pl.isList h0 (by omega) (by rw [hj]; simpa using ew) fin
  · have hj : (j + (its.toArray.size : Int)).toNat = k := by
      rw [seqIndex_neg (by omega) h4] at h1
      rw [List.size_toArray, ← hl]
      exact Option.some.inj h1
    exact wpAny_getItem_list_neg pl.isList (by omega) (by rw [List.size_toArray] <;> omega) (by omega) (by rw [hj]; simpa using ew) fin
theorem refIx_at {d e : Ev.D} {z : Ev.D} {m : List Addr} {H : Hp} {S : Store} {v u : V} (rs : RS G m H S) (rd : Rep G m H d v) (re : Rep G m H e u) (h : refIx d e S = some z) : ∃ p xs j w, v = .ref p ∧ u = .int j ∧ Rd H p (.lst xs) ∧ atI xs j = some w ∧ Rep G m H z w := by
  unfold refIx at h
  split at h
  · rename_i n
    split at h
    · rename_i l e1
      split at h
      · rename_i i
        split at h
        · rename_i k hk
          obtain ⟨p, vs, rfl, hp, r⟩ := lstOf_sq (l := l) rs rd (by unfold lstOf; simp only [e1])
          obtain ⟨w, hw, rw'⟩ := r.get h
          refine ⟨p, vs, i, w, rfl, re.int_inv, hp, ?_, rw'⟩
          unfold atI
          rw [← ixN_eq, ← r.length, hk]
          exact hw
        · cases h
      · cases h
    · cases h
  · cases h
theorem augV_at {sb : Bool} {x y z : Ev.D} (h : augV sb x y = some z) : ∃ i j : Int, x = .int i ∧ y = .int j ∧ z = .int (if sb then i - j else i + j) := by
  unfold augV at h
  split at h
  · cases h
    exact ⟨_, _, rfl, rfl, rfl⟩
  · cases h
theorem ip_sb {sb : Bool} {op : Operator} (h : augB sb op = true) : PIp X op (ipI fun i j => if sb then i - j else i + j) := by
  unfold augB at h
  split at h
  · exact ip_add
  · exact ip_sub
  · cases h
theorem s_augN (c : CtxS G n X s W) {i : Nat} {nm : Str} {px : Pos} {sb : Bool} {op : Operator} (ha : PE X x (tE G W (evE C a))) (hp : putB s i nm = true) (ho : augB sb op = true) : PS X (.AugAssign (.Name nm px) op x pos) (tS G W (exS C (.augN i sb a))) := by
  obtain ⟨p1, p2, p3⟩ := c.c.put hp
  refine ps_imp (ps_aug c.c.nN p1 p2 ha (ip_sb ho) p3) fun D σ H ⟨m, ρ, S, re, rs, q⟩ => ?_
  simp only [exS] at q
  cases e : valS ρ i with
  | none => rw [e] at q; exact q.elim
  | some d =>
    rw [e] at q
    have e1 : ρ[i]? = some (some d) := by
      unfold valS at e
      split at e
      · rename_i h
        cases e
        exact h
      · cases e
    obtain ⟨v, hv, rv⟩ := re.at_ i d e1
    replace q : FinS G W m H ((evE C a ρ S).os ρ (fun y S1 => match augV sb d y with
      | some z => .nx (setS ρ i z) S1
      | none => .bad)) D := q
    refine ⟨v, hv, tS.go (ρ0 := ρ) re re rs q fun y S1 m1 H1 v1 _ x1 re1 _ rs1 r1 q1 => ?_⟩
    split at q1
    · rename_i z hz
      obtain ⟨i1, j1, rfl, rfl, rfl⟩ := augV_at hz
      exact ⟨i1, j1, rv.int_inv, r1.int_inv, g_name re1 rs1 rep_int q1⟩
    · exact q1.elim
theorem aug_tree {i : Expr} (h : notSlice i = true) (ov iv new : Value) : augStore i ov iv new = (do holding [new, ov, iv] (setItem ov iv new); release [new, ov, iv] []; pure .next) := by
  cases i <;> first | rfl | (simp [notSlice] at h)
theorem s_augI (c : CtxS G n X s W) {o i0 : Ex} {p2 : Pos} {sb : Bool} {op : Operator} (ho : PE X y (tE G W (evE C o))) (hi : PE X z (tE G W (evE C i0))) (ha : PE X x (tE G W (evE C a))) (hz : notSlice z = true) (hop : augB sb op = true) : PS X (.AugAssign (.Subscript y z p2) op x pos) (tS G W (exS C (.augI o i0 sb a))) := by
  refine ps_imp (ps_augS ho hi get_cell ha (ip_sb hop) (set_cell (G := G)) (aug_tree hz)) fun D σ H ⟨m, ρ, S, re, rs, q⟩ => ?_
  simp only [exS] at q
  refine tS.go re re rs q fun d S1 m1 H1 v1 _ x1 re1 _ rs1 r1 q1 => ?_
  refine tS.go re1 re1 rs1 q1 fun d2 S2 m2 H2 v2 _ x2 re2 _ rs2 r2 q2 => ?_
  have r1' := Rep.mono x2 _ _ r1
  cases e : refIx d d2 S2 with
  | none => rw [e] at q2; exact q2.elim
  | some w0 =>
    rw [e] at q2
    replace q2 : FinS G W m2 H2 ((evE C a ρ S2).os ρ (fun y S4 => match augV sb w0 y with
      | some z => match setI d d2 z S4 with
        | some S5 => .nx ρ S5
        | none => .bad
      | none => .bad)) D := q2
    obtain ⟨p, xs, j, w, rfl, rfl, hp, hw, rw'⟩ := refIx_at rs2 r1' r2 e
    refine ⟨p, xs, j, w, rfl, rfl, sq_of hp, hw, ?_⟩
    refine tS.go (ρ0 := ρ) re2 re2 rs2 q2 fun d3 S3 m3 H3 v3 _ x3 re3 _ rs3 r3 q3 => ?_
    split at q3
    · rename_i zz hzz
      obtain ⟨i1, j1, rfl, rfl, rfl⟩ := augV_at hzz
      refine ⟨i1, j1, rw'.int_inv, r3.int_inv, ?_⟩
      split at q3
      · rename_i S4 e4
        exact ⟨m3, S3, d, d2, _, S4, rs3, Rep.mono x3 _ _ r1', Rep.mono x3 _ _ r2, rep_int, e4, fun H' x' rs' => q3 m3 H' σ x' (re3.mono x') rs'⟩
      · exact q3.elim
    · exact q3.elim
theorem s_asg2 (c : CtxS G n X s W) {i j : Nat} {nm ny : Str} {px py : Pos} (ha : PE X x (tE G W (evE C a))) (hp : putB s i nm = true) (hq : putB s j ny = true) (hw : swappedStores [.Name nm px, .Name ny py] x X.env = pure none) : PS X (.Assign [.Name nm px, .Name ny py] x pos) (tS G W (exS C (.asg2 i j a))) := by
  obtain ⟨p1, p2, p3⟩ := c.c.put hp
  obtain ⟨p4, p5, p6⟩ := c.c.put hq
  refine ps_imp (ps_asg2 ha (pg_name c.c.nN p1 p2 p3) (pg_name c.c.nN p4 p5 p6) rfl hw) fun D σ H ⟨m, ρ, S, re, rs, q⟩ => ?_
  simp only [exS] at q
  exact tS.go re re rs q fun d S1 m1 H1 v1 _ x1 re1 _ rs1 r1 q1 => q1 m1 H1 _ Ext.refl ((re1.set r1).set r1) rs1
theorem s_whl (c : CtxS G n X s W) {c0 : Ex} {B : Sts} {q : List Stmt} (hc : PT X x (tT G W (evT C c0))) (hb : PSs X q (tS G W (exSs C B))) : PS X (.While x q [] pos) (tS G W (exS C (.whl c0 B))) := by
  refine ps_imp (ps_while c.po hc hb) fun D σ H ⟨m, ρ, S, re, rs, q⟩ => ?_
  simp only [exS, whl] at q
  split at q
  · rename_i h
    have hs := h.choose_spec.choose_spec
    generalize h.choose_spec.choose = r at q hs
    generalize h.choose = k at hs
    refine ⟨fun j σ' H' => ∃ m' ρ' S', RE G m' H' ρ' σ' ∧ RS G m' H' S' ∧ Ext m H m' H' ∧ whlN (fun ρ S => evT C c0 ρ S) (fun ρ S => exSs C B ρ S) j ρ' S' = some r, ⟨k, m, ρ, S, re, rs, Ext.refl, hs⟩, ?_⟩
    rintro j σ1 H1 ⟨m1, ρ1, S1, re1, rs1, x1, e⟩
    cases j with
    | zero => simp only [whlN] at e; cases e
    | succ j =>
      simp only [whlN] at e
      refine ⟨m1, ρ1, S1, re1, rs1, ?_⟩
      cases ec : evT C c0 ρ1 S1 with
      | bad =>
        rw [ec] at e
        cases e
        exact q.elim
      | ex xc l S2 =>
        rw [ec] at e
        cases e
        exact fun m' H' dx x' rs' xr => q m' H' dx σ1 (x1.trans x') (re1.mono x') rs' xr
      | ok kb S2 =>
        rw [ec] at e
        intro m2 H2 k2 x2 rs2 rk
        have ek : kb = k2 := rk
        subst ek
        cases kb with
        | false =>
          cases e
          exact q m2 H2 σ1 (x1.trans x2) (re1.mono x2) rs2
        | true =>
          simp only [if_true] at e ⊢
          refine ⟨fun σ' H' => ∃ m' ρ' S', RE G m' H' ρ' σ' ∧ RS G m' H' S' ∧ Ext m H m' H' ∧ whlN (fun ρ S => evT C c0 ρ S) (fun ρ S => exSs C B ρ S) j ρ' S' = some r, fun σ' H' w => ⟨j, Nat.lt_succ_self _, w⟩, ?_⟩
          refine ⟨m2, ρ1, S2, re1.mono x2, rs2, ?_⟩
          cases eb : exSs C B ρ1 S2 with
          | nx ρ3 S3 =>
            rw [eb] at e
            exact fun m' H' σ' x' re' rs' => ⟨m', ρ3, S3, re', rs', (x1.trans x2).trans x', e⟩
          | ct ρ3 S3 =>
            rw [eb] at e
            exact fun m' H' σ' x' re' rs' => ⟨m', ρ3, S3, re', rs', (x1.trans x2).trans x', e⟩
          | bk ρ3 S3 =>
            rw [eb] at e
            cases e
            exact fun m' H' σ' x' re' rs' => q m' H' σ' ((x1.trans x2).trans x') re' rs'
          | rt d S3 =>
            rw [eb] at e
            cases e
            exact fun m' H' v x' rs' r' => q m' H' v ((x1.trans x2).trans x') rs' r'
          | ex xc l ρ3 S3 =>
            rw [eb] at e
            cases e
            exact fun m' H' dx σ' x' re' rs' xr => q m' H' dx σ' ((x1.trans x2).trans x') re' rs' xr
          | bad =>
            rw [eb] at e
            cases e
            exact q.elim
  · exact q.elim
theorem s_for (c : CtxS G n X s W) {t : Tg} {it : Iter} {B : Sts} {q : List Stmt} {tgE : Expr} (hw : PI X tgE x (tW G W (evW C it))) (hns : noSet x = true) (hp : tgB s t tgE = true) (hb : PSs X q (tS G W (exSs C B))) : PS X (.For tgE x q [] pos) (tS G W (exS C (.forr t it B))) := by
  refine ps_imp (ps_for c.po c.c.calm hw (r_tg c.c hp) hb (folded_of hns)) fun D σ H ⟨m, ρ, S, re, rs, q⟩ => ?_
  simp only [exS] at q
  refine tS.go re re rs q fun p S1 m1 H1 J _ x1 re1 _ rs1 ry q1 => ?_
  refine ⟨fun i j σ' H' => ∃ m' ρ' S', j = p.1.length - i ∧ i ≤ p.1.length ∧ RE G m' H' ρ' σ' ∧ RS G m' H' S' ∧ Ext m1 H1 m' H' ∧ FinS G W m' H' (forL t (fun ρ S => exSs C B ρ S) p.2 (p.1.drop i) ρ' S') D, ⟨_, m1, ρ, S1, rfl, Nat.zero_le _, re1, rs1, Ext.refl, q1⟩, ?_⟩
  rintro i j σ2 H2 ⟨m2, ρ2, S2, rfl, hi, re2, rs2, x2, f⟩
  by_cases hlt : i < p.1.length
  · have hd : p.1.drop i = p.1[i] :: p.1.drop (i + 1) := List.drop_eq_getElem_cons hlt
    rw [hd] at f
    simp only [forL] at f
    split at f
    · rename_i hg
      obtain ⟨go, yl⟩ := (ry m2 H2 S2 x2 rs2 hg i).1 p.1[i] (List.getElem?_eq_getElem hlt)
      split at f
      · rename_i ρ3 et
        refine .inr ⟨go, fun σ' H' => ∃ m' ρ' S', RE G m' H' ρ' σ' ∧ RS G m' H' S' ∧ Ext m1 H1 m' H' ∧ FinS G W m' H' (forL t (fun ρ S => exSs C B ρ S) p.2 (p.1.drop (i + 1)) ρ' S') D, ?_, ?_⟩
        · rintro σ' H' ⟨m', ρ', S', re', rs', x', f'⟩
          exact ⟨p.1.length - (i + 1), by omega, m', ρ', S', rfl, hlt, re', rs', x', f'⟩
        · intro v H3 hy
          obtain ⟨x3, rs3, r3⟩ := yl v H3 hy
          refine ⟨m2, ρ2, S2, p.1[i], ρ3, re2.mono x3, rs3, r3, et, fun σ4 re4 _ => ⟨m2, ρ3, S2, re4, rs3, ?_⟩⟩
          cases eb : exSs C B ρ3 S2 with
          | nx ρ5 S5 =>
            rw [eb] at f
            exact fun m' H' σ' x' re' rs' => ⟨m', ρ5, S5, re', rs', x2.trans (x3.trans x'), FinS.ext (x3.trans x') f⟩
          | ct ρ5 S5 =>
            rw [eb] at f
            exact fun m' H' σ' x' re' rs' => ⟨m', ρ5, S5, re', rs', x2.trans (x3.trans x'), FinS.ext (x3.trans x') f⟩
          | bk ρ5 S5 =>
            rw [eb] at f
            exact fun m' H' σ' x' re' rs' => f m' H' σ' (x3.trans x') re' rs'
          | rt d S5 =>
            rw [eb] at f
            exact fun m' H' v x' rs' r' => f m' H' v (x3.trans x') rs' r'
          | ex xc l ρ5 S5 =>
            rw [eb] at f
            exact fun m' H' dx σ' x' re' rs' xr => f m' H' dx σ' (x3.trans x') re' rs' xr
          | bad =>
            rw [eb] at f
            exact f.elim
      · exact f.elim
    · exact f.elim
  · have e1 : i = p.1.length := by omega
    have hd : p.1.drop i = [] := List.drop_eq_nil_of_le (by omega)
    rw [hd] at f
    simp only [forL] at f
    split at f
    · rename_i hg
      exact .inl ⟨(ry m2 H2 S2 x2 rs2 hg i).2 e1.symm, f m2 H2 σ2 Ext.refl re2 rs2⟩
    · exact f.elim
end
end Ev
end
section
set_option maxRecDepth 100000
set_option maxHeartbeats 8000000
/-! Ev, part 17: more rules of statements; exceptions. -/
namespace Ev
open PySem PySem.Spec PyProof.Rows L2
section
variable {G : Pg} {n : Nat} {X : Cx} {s : Sx} {W : WX} {C : Cs} {e x y z : Expr} {p pos apos : Pos} {a b : Ex} {es : List Expr} {l l2 : Exs}
theorem comp_inv {M : Nm} {v : Expr} (h : chkE M a s v = true) (hn : ¬ notComp v = true) : (∃ m own tg it c e0 x t i ifs sc p, a = .lc m own tg it c e0 ∧ v = .ListComp x [⟨t, i, ifs, 0⟩] sc p) ∨ ∃ m own tg it c tg2 it2 c2 e0 x t i ifs t2 i2 ifs2 sc p, a = .lc2 m own tg it c tg2 it2 c2 e0 ∧ v = .ListComp x [⟨t, i, ifs, 0⟩, ⟨t2, i2, ifs2, 0⟩] sc p := by
  cases a <;> (unfold chkE at h; split at h) <;> first
    | (cases h; done)
    | exact absurd rfl hn
    | exact .inl ⟨_, _, _, _, _, _, _, _, _, _, _, _, rfl, rfl⟩
    | exact .inr ⟨_, _, _, _, _, _, _, _, _, _, _, _, _, _, _, _, _, _, rfl, rfl⟩
theorem s_asgLc (hd : Hd G) (np : NpOk G) (hC : C = csOf G.T n) (c : CtxS G n X s W) {i : Nat} {nm : Str} {px : Pos} (h : chkE G.M a s x = true) (hn : ¬ notComp x = true) (hp : putB s i nm = true) : PS X (.Assign [.Name nm px] x pos) (tS G W (exS C (.asg i a))) := by
  have ha := (okE hd np hC a s W X x c.c h).1
  obtain ⟨p1, p2, p3⟩ := c.c.put hp
  rcases comp_inv h hn with ⟨m, own, tg, it, cn, e0, el, t, it0, ifs, sc, lp, rfl, rfl⟩ | ⟨m, own, tg, it, cn, tg2, it2, cn2, e0, el, t, it0, ifs, t2, it20, ifs2, sc, lp, rfl, rfl⟩
  · by_cases hb : (X.env.blockKind == .function && X.env.kindOf nm == some .local && px.line == lp.line && !(sc.names.any fun (n, k) => n == nm && (k == .local || k == .cell))) = true
    · have hsw : swapsWith (.ListComp el [⟨t, it0, ifs, 0⟩] sc lp) (some (.Name nm px)) pos.line X.env = pure true := by
        unfold swapsWith
        simp only [Expr.pos]
        rw [hb]
      simp only [Bool.and_eq_true] at hb
      have hl : X.env.scope.names.lookup nm = some .local := by
        have := hb.1.1.2
        simp only [beq_iff_eq] at this
        exact this
      have h' := h
      simp only [chkE, Bool.and_eq_true] at h'
      obtain ⟨h1, h2, h3, h4, h5, h6⟩ := h'
      have hs : ∀ i ∈ idxs tg, i ∈ own := by
        intro i hi
        cases tg with
        | nm j =>
          simp only [idxs, List.mem_singleton] at hi
          subst hi
          exact List.contains_iff_mem.mp h3
        | tp js => exact List.contains_iff_mem.mp (List.all_eq_true.mp h3 i hi)
      have q0 := ps_setLc c.c.calm c.c.nN p1 hl hsw (okW hd np hC it s W X t it0 c.c h4) (blkOk_by (by rw [c.c.N, c.c.sc]; exact h1)) (fun st H Ca cl fp => r_tg (blk_ctx c.c st H Ca cl fp) h2) (fun st H Ca cl fp => okC hd np hC cn _ _ _ _ (blk_ctx c.c st H Ca cl fp) h5) (fun st H Ca cl fp => (okE hd np hC e0 _ _ _ _ (blk_ctx c.c st H Ca cl fp) h6).1) (folded_of (chkW_set _ _ _ _ h4))
      rw [own_map] at q0
      refine ps_imp q0 fun D σ H ⟨m, ρ, S, re, rs, q⟩ => ?_
      simp only [exS] at q
      exact lc_read hs σ H _ (tS.go re re rs q fun d S1 m1 H1 v1 _ x1 re1 _ rs1 r1 q1 => g_name re1 rs1 r1 q1)
    · refine s_asg c ha hp ?_
      unfold swapsWith
      simp only [Expr.pos]
      rw [Bool.not_eq_true] at hb
      rw [hb]
  · by_cases hb : (X.env.blockKind == .function && X.env.kindOf nm == some .local && px.line == lp.line && !(sc.names.any fun (n, k) => n == nm && (k == .local || k == .cell))) = true
    · have hsw : swapsWith (.ListComp el [⟨t, it0, ifs, 0⟩, ⟨t2, it20, ifs2, 0⟩] sc lp) (some (.Name nm px)) pos.line X.env = pure true := by
        unfold swapsWith
        simp only [Expr.pos]
        rw [hb]
      simp only [Bool.and_eq_true] at hb
      have hl : X.env.scope.names.lookup nm = some .local := by
        have := hb.1.1.2
        simp only [beq_iff_eq] at this
        exact this
      have h' := h
      simp only [chkE, Bool.and_eq_true] at h'
      obtain ⟨h1, h2, h3, h4, h5, h6, h7, h8, h9, h10⟩ := h'
      have hs : ∀ i ∈ idxs tg, i ∈ own := fun i hi => List.contains_iff_mem.mp (List.all_eq_true.mp h3 i (by rw [idxs_eq]; exact hi))
      have hs2 : ∀ i ∈ idxs tg2, i ∈ own := fun i hi => List.contains_iff_mem.mp (List.all_eq_true.mp h7 i (by rw [idxs_eq]; exact hi))
      have q0 := ps_setLc2 (vs1 := idxs tg2) c.c.calm c.c.nN p1 hl hsw (okW hd np hC it s W X t it0 c.c h4) (blkOk_by (by rw [c.c.N, c.c.sc]; exact h1)) (by rw [own_map]; exact hs2) (fun st H Ca cl fp => r_tg (blk_ctx c.c st H Ca cl fp) h2) (fun st H Ca cl fp => okC hd np hC cn _ _ _ _ (blk_ctx c.c st H Ca cl fp) h5) (fun st H Ca cl fp => okW hd np hC it2 _ _ _ _ _ (blk_ctx c.c st H Ca cl fp) h8) (fun st H Ca cl fp => r_tg (blk_ctx c.c st H Ca cl fp) h6) (fun st H Ca cl fp => okC hd np hC cn2 _ _ _ _ (blk_ctx c.c st H Ca cl fp) h9) (fun st H Ca cl fp => (okE hd np hC e0 _ _ _ _ (blk_ctx c.c st H Ca cl fp) h10).1) (folded_of (chkW_set _ _ _ _ h4)) (fun _ => folded_of (chkW_set _ _ _ _ h8))
      rw [own_map] at q0
      refine ps_imp q0 fun D σ H ⟨m, ρ, S, re, rs, q⟩ => ?_
      simp only [exS] at q
      exact lc2_read hs σ H _ (tS.go re re rs q fun d S1 m1 H1 v1 _ x1 re1 _ rs1 r1 q1 => g_name re1 rs1 r1 q1)
    · refine s_asg c ha hp ?_
      unfold swapsWith
      simp only [Expr.pos]
      rw [Bool.not_eq_true] at hb
      rw [hb]
/-! #### a, b = x, y -/
theorem swap_two {nx ny : Str} {px py pt : Pos} {kt k2 : Nat} {p2 : Pos} {v w : Expr} (hk : X.env.scope.kind = .function) (hsc : X.env.scope = s.sc) (h : swpB s nx ny px py [v, w] = true) : swappedStores [.Tuple [.Name nx px, .Name ny py] kt pt] (.Tuple [v, w] k2 p2) X.env = pure (some [nx, ny]) := by
  unfold swpB at h
  simp only [Bool.and_eq_true, Bool.not_eq_true'] at h
  obtain ⟨⟨⟨⟨⟨⟨h1, h2⟩, h3⟩, h4⟩, h5⟩, h6⟩, h7⟩ := h
  have hx : X.env.scope.names.lookup nx = some .local := by
    rw [hsc]
    split at h1
    · assumption
    · cases h1
  have hy : X.env.scope.names.lookup ny = some .local := by
    rw [hsc]
    split at h2
    · assumption
    · cases h2
  have kx : X.env.kindOf nx = some .local := hx
  have ky : X.env.kindOf ny = some .local := hy
  have hb : X.env.blockKind = .function := by unfold Env.blockKind; rw [hk]; rfl
  have e3 : (py.line == px.line) = true := by
    rw [beq_iff_eq] at h3 ⊢
    exact h3.symm
  have e4 : (ny == nx) = false := by
    rw [beq_eq_false_iff_ne] at h4 ⊢
    exact fun z => h4 z.symm
  unfold swappedStores
  simp only [hb, kx, ky, h5, h6, h7, Expr.pos, List.head?_cons, Option.map_some, Option.getD_some, List.filterMap_cons, List.filterMap_nil, e3, beq_self_eq_true, Bool.and_self, Bool.true_and, if_true, List.length_cons, List.length_nil, List.eraseDups_cons, List.filter_cons, e4, h4, List.filter_nil, List.eraseDups_nil]
  rw [if_neg (by decide), if_neg (fun z => by have z2 := h7.symm.trans z; cases z2)]
  have e5 : ([ny] : List Str).eraseDups = [ny] := by simp [List.eraseDups_cons]
  rw [if_neg (by
    rw [if_pos (by rfl), e5]
    simp), if_neg (by decide), if_neg (by decide)]
theorem s_swp (c : CtxS G n X s W) {i j : Nat} {nx ny : Str} {px py pt : Pos} {kt k2 : Nat} {p2 : Pos} {v w : Expr} (h : swpB s nx ny px py [v, w] = true) (hi : putB s i nx = true) (hj : putB s j ny = true) (hij : i ≠ j) (ha : PE X v (tE G W (evE C a))) (hv : noStar v = true) (hb : PE X w (tE G W (evE C b))) (hw : noStar w = true) :
    PS X (.Assign [.Tuple [.Name nx px, .Name ny py] kt pt] (.Tuple [v, w] k2 p2) pos) (tS G W (exS C (.swp i j a b))) := by
  obtain ⟨i1, i2, i3⟩ := c.c.put hi
  obtain ⟨j1, j2, j3⟩ := c.c.put hj
  have hk : X.env.scope.kind = .function := by rw [c.c.sc]; exact c.kd
  have loc : ∀ {z : Str}, (match s.sc.names.lookup z with
      | some .local => true
      | _ => false) = true → X.env.scope.names.lookup z = some .local := fun {z} hz => by
    rw [c.c.sc]
    split at hz
    · assumption
    · cases hz
  have h' := h
  unfold swpB at h'
  simp only [Bool.and_eq_true] at h'
  refine ps_imp (ps_par c.c.calm c.c.nN i1 j1 hij (loc h'.1.1.1.1.1.1) (loc h'.1.1.1.1.1.2) (pa_cons ha (pa_cons hb pa_nil (star_of hw)) (star_of hv)) (swap_two hk c.c.sc h) (sw_sole (by intro _ _ h; cases h))) fun D σ H ⟨m, ρ, S, re, rs, q⟩ => ?_
  simp only [exS] at q
  refine tS.go re re rs q fun d S1 m1 H1 v1 _ x1 re1 _ rs1 r1 q1 => ?_
  refine tS.go re1 re1 rs1 q1 fun d2 S2 m2 H2 v2 _ x2 re2 _ rs2 r2 q2 => ?_
  exact ⟨v1, v2, rfl, q2 m2 H2 _ Ext.refl ((re2.set (Rep.mono x2 _ _ r1)).set r2) rs2⟩
theorem no_swap {ts vs : List Expr} {kt k2 : Nat} {pt p2 : Pos} {env : Env} (h : vs.all (foldedForSure 8) = true ∨ (ts.length == 2 || ts.length == 3) = false) : swappedStores [.Tuple ts kt pt] (.Tuple vs k2 p2) env = pure none := by
  unfold swappedStores
  simp only []
  rcases h with h | h
  · simp only [h, if_true]
    repeat' split
    all_goals rfl
  · simp only [h, Bool.not_false, Bool.true_or, if_true]
theorem put_zip (hd : Hd G) {f : Nat} {m : List Addr} {H : Hp} {d : Ev.D} {y : V} (r : Rep G m H d y) : ∀ {fs : List (Nat × Ev.D)} {vs : List V}, RepL G m H (fs.map (·.2)) vs → ∃ us, putF (G.att f) y ((fs.map fun g => G.att g.1).zip vs) = ((putN f d fs).map fun g => G.att g.1).zip us ∧ RepL G m H ((putN f d fs).map (·.2)) us
  | [], vs, q => by
    simp only [List.map_nil, RepL] at q
    subst q
    exact ⟨[y], rfl, RepL.cons r RepL.nil⟩
  | (g, e) :: fs, vs, q => by
    simp only [List.map_cons, RepL] at q
    obtain ⟨v, us, rfl, q1, q2⟩ := q
    simp only [List.map_cons, List.zip_cons_cons, putF, putN]
    by_cases hg : g = f
    · subst hg
      rw [if_pos rfl, if_pos rfl]
      exact ⟨y :: us, rfl, RepL.cons r q2⟩
    · rw [if_neg hg, if_neg (fun z => hg (att_inj hd z))]
      obtain ⟨ws, e1, e2⟩ := put_zip hd r q2
      exact ⟨v :: ws, by rw [e1]; rfl, RepL.cons q1 e2⟩
theorem s_asgA (hd : Hd G) (c : CtxS G n X s W) (hT : C.T = G.T) {o : Ex} {f : Nat} {nm : Str} {p2 : Pos} (hn : G.M.atts[f]? = some nm) (ho : PE X y (tE G W (evE C o))) (ha : PE X x (tE G W (evE C a))) : PS X (.Assign [.Attribute y nm p2] x pos) (tS G W (exS C (.asgA o f a))) := by
  rw [← att_of hn]
  refine ps_imp (ps_fld ho ha (sw_other (by intro _ _ h; cases h))) fun D σ H ⟨m, ρ, S, re, rs, q⟩ => ?_
  simp only [exS] at q
  refine tS.go re re rs q fun d S1 m1 H1 v1 _ x1 re1 _ rs1 r1 q1 => ?_
  refine tS.go re1 re1 rs1 q1 fun d2 S2 m2 H2 v2 _ x2 re2 _ rs2 r2 q2 => ?_
  split at q2
  · rename_i i
    split at q2
    · rename_i k fs es
      split at q2
      · rename_i hk
        rw [hT] at hk
        obtain ⟨A, rfl, hA⟩ := r2.ref_inv
        obtain ⟨A', hA', dx, vs, hv, r⟩ := rs2.cel _ _ es
        rw [hA] at hA'; cases hA'
        obtain ⟨us, e1, e2⟩ := put_zip (f := f) hd (Rep.mono x2 _ _ r1) r
        have hl : fs.length = vs.length := by rw [← r.length, List.length_map]
        refine ⟨A, _, dx, _, rfl, hv, by rw [c.c.K]; exact (hd.cls k (cls_lt hk.2)).cls, by rw [c.c.K]; exact hd.na k f hk.2, by rw [List.length_zip, List.length_map, ← hl, Nat.min_self]; exact hk.1, ?_⟩
        rw [e1]
        have xw : Ext m2 H2 m2 (upd H2 A (.ins (G.ca k) dx (((putN f d fs).map fun g => G.att g.1).zip us))) := Ext.write (List.mem_of_getElem? hA)
        exact q2 m2 _ σ xw (re2.mono xw) (rs2.write (c := .ins k (putN f d fs)) hA ⟨dx, us, upd_same, RepL.mono xw _ _ e2⟩)
      · exact q2.elim
    · exact q2.elim
  · exact q2.elim
end
/-! #### exceptions -/
/-- what of the exceptions' classes is known -/
structure Xd (G : Pg) : Prop where
  mg : ∀ (c : Nat) (x : Str), G.M.exc[c]? = some x → G.mg x = some (.ref (G.xa c)) ∧ c < G.T.exc.length
  exm : ∀ c k, c < G.T.exc.length → k < G.T.exc.length → PySem.W.exmOne G.K (.ref (G.xa c)) (.ref (G.xa k)) = some ((ancOf G.T c).contains k)
  xf : ∀ c, c < G.T.exc.length → XfC G.K (G.xa c) ∧ ∀ f ∈ excF G.T c, PySem.W.findIn G.K (.ref (G.xa c)) (G.att f) = some none
/-- what an exception of one field is made of -/
def XR (G : Pg) (c : Nat) (vs : List V) (H1 : Hp) (Q : XK) : Prop := ∃ i y, excF G.T c = [i] ∧ vs = [y] ∧ ∀ dx, H1 dx = none → Q (.ref (G.xa c)) (some dx) (upd H1 dx (.xd [(G.att i, y)]))
/-- X(..) makes an exception whose field is the value -/
def XMk (G : Pg) : Prop := ∀ (n : Nat) (X : Cx) (s : Sx) (W : WX) (c : Nat) (nm : Str) (es : List Expr) (p pos : Pos) (t : TA), Ctx G n X s W → G.M.exc[c]? = some nm → gloB s nm = true → es.all noStar = true → PA X es t → (es = [] → ∀ σ H Q, t σ H Q → Q [] H) →
  PMk X (.Call (.Name nm p) es [] pos) (fun σ H Q => t σ H fun vs H1 => XR G c vs H1 Q)
section
variable {G : Pg} {n : Nat} {X : Cx} {s : Sx} {W : WX} {C : Cs} {e x y z : Expr} {p pos apos : Pos} {a b : Ex} {es : List Expr} {l l2 : Exs}
theorem s_rai (xm : XMk G) (xd : Xd G) (c : CtxS G n X s W) (hT : C.T = G.T) {k : Nat} {nm : Str} (hn : G.M.exc[k]? = some nm) (hg : gloB s nm = true) (hl : chkL G.M l s es = true) (ha : PA X es (tL G W (evL C l))) : PS X (.Raise (some (.Call (.Name nm p) es [] apos)) none pos) (tS G W (exS C (.rai k l))) := by
  have hlt := (xd.mg k nm hn).2
  have q0 := ps_raise (pos := pos) c.c.calm c.c.tk (xm n X s W k nm es p apos _ c.c hn hg (chkL_star _ _ _ hl) ha fun e σ H Q q => nil_of hl e q)
  refine ps_imp q0 fun D σ H ⟨m, ρ, S, re, rs, q⟩ => ?_
  simp only [exS] at q
  refine tS.go re re rs q fun ds S1 m1 H1 vs _ x1 re1 _ rs1 r1 q1 => ?_
  split at q1
  · rename_i hz
    rw [hT] at hz
    obtain ⟨d, rfl⟩ := List.length_eq_one_iff.mp hz.2
    obtain ⟨v, rfl, rv⟩ := one_inv r1
    obtain ⟨i, hi⟩ := List.length_eq_one_iff.mp (show (excF G.T k).length = 1 from hz.1.symm)
    refine ⟨i, v, hi, rfl, fun dx hdx => ?_⟩
    have xx : Ext m1 H1 m1 (upd H1 dx (.xd [(G.att i, v)])) := Ext.new hdx
    exact q1 m1 _ dx σ xx (re1.mono xx) (rs1.new hdx) ⟨[v], by rw [hi]; exact upd_same, RepL.mono xx _ _ r1, hz.1, hlt⟩
  · exact q1.elim
/-- the reading of an except suite's expression -/
def tH (G : Pg) (A : Addr) (cls : Value) (dd : Option Addr) (i : Option Nat) {α β : Type} (R : List Addr → Hp → α → β → Prop) (ev : Nat → List Ev.D → Fr → Store → Rs α) (σ : L2.St) (H : Hp) (Q : β → Hp → Prop) : Prop :=
  ∃ m ρ S k l dx, RE G m H ρ σ ∧ RS G m H S ∧ cls = .ref (G.xa k) ∧ dd = some dx ∧ XRep G m H k l dx ∧ (∀ j, i = some j → j < σ.length → σ[j]? = some (some (.ref A))) ∧ Fin G noW σ R m H (ev k l ρ S) fun _ _ _ H' v => Q v H'
theorem xrep_mono {m m' : List Addr} {H H' : Hp} {S0 : Store} {k : Nat} {l : List Ev.D} {dx : Addr} (rs : RS G m H S0) (x : Ext m H m' H') (h : XRep G m H k l dx) : XRep G m' H' k l dx := by
  obtain ⟨vs, h1, r, hl⟩ := h
  have hm : dx ∉ m := fun hm => by
    obtain ⟨n, hn, e⟩ := List.getElem_of_mem hm
    have hS : n < S0.length := by rw [← rs.len]; exact hn
    obtain ⟨p', hp', q⟩ := rs.cel n S0[n] (List.getElem?_eq_getElem hS)
    rw [List.getElem?_eq_getElem hn, e] at hp'
    cases hp'
    cases hc : S0[n] with
    | lst l =>
      rw [hc] at q
      obtain ⟨_, q, _⟩ := q
      rw [h1] at q; cases q
    | ins c fs =>
      rw [hc] at q
      obtain ⟨_, _, q, _⟩ := q
      rw [h1] at q; cases q
  exact ⟨vs, (x.keep _ _ h1 hm).1, RepL.mono x _ _ r, hl⟩
theorem tH.go {A : Addr} {cls : Value} {dd : Option Addr} {i : Option Nat} {α β γ δ : Type} {R : List Addr → Hp → α → β → Prop} {R' : List Addr → Hp → γ → δ → Prop} {ev : Nat → List Ev.D → Fr → Store → Rs α} {kk : α → Store → Rs γ} {t : Tag kk} {Q : δ → Hp → Prop} {Q' : β → Hp → Prop} {σ : L2.St} {m : List Addr} {H : Hp} {ρ : Fr} {S : Store} {k : Nat} {l : List Ev.D} {dx : Addr}
    (re : RE G m H ρ σ) (rs : RS G m H S) (hc : cls = .ref (G.xa k)) (hdd : dd = some dx) (xr : XRep G m H k l dx) (hi : ∀ j, i = some j → j < σ.length → σ[j]? = some (some (.ref A)))
    (h : Fin G noW σ R' m H ((ev k l ρ S).th kk t) fun _ _ _ H' v => Q v H')
    (q : ∀ a S' m' H' v, Ext m H m' H' → RE G m' H' ρ σ → RS G m' H' S' → R m' H' a v → XRep G m' H' k l dx → (Fin G noW σ R' m' H' (kk a S') fun _ _ _ H' v => Q v H') → Q' v H') : tH G A cls dd i R ev σ H Q' :=
  ⟨m, ρ, S, k, l, dx, re, rs, hc, hdd, xr, hi, (Fin.th (R := R) h).imp fun a S' m' H' v x rs' r f => q a S' m' H' v x (re.mono x) rs' r (xrep_mono rs x xr) f⟩
theorem han_star {M : Nm} (h : Ex) (v : Expr) (q : hanE s M h v = true) : noStar v = true := by
  cases h <;> first
    | (simp [hanE] at q; done)
    | (simp only [hanE] at q
       split at q
       · rfl
       · cases q)
    | (rename_i a f
       cases a <;> first
         | (simp [hanE] at q; done)
         | (simp only [hanE] at q
            split at q
            · rfl
            · cases q))
theorem evHL_len {T : Tb} {k : Nat} {i : Option Nat} {L : List Ev.D} : ∀ (l : Exs) {ρ : Fr} {S S' : Store} {ds : List Ev.D}, evH.evHL T k L i l ρ S = .ok ds S' → ds.length = lenX l
  | .nil, ρ, S, S', ds, h => by
    simp only [evH.evHL] at h
    cases h; rfl
  | .cons e l, ρ, S, S', ds, h => by
    simp only [evH.evHL] at h
    obtain ⟨d, S1, h1, h2⟩ := fin_th h
    obtain ⟨ds2, S2, h3, h4⟩ := fin_th h2
    cases h4
    simp only [List.length_cons, evHL_len l h3, lenX]
theorem hanL_len {M : Nm} : ∀ (l : Exs) (es : List Expr), hanE.hanL s M l es = true → lenX l = es.length
  | .nil, es, h => by
    simp only [hanE.hanL, List.isEmpty_iff] at h
    rw [h]; rfl
  | .cons e l, es, h => by
    simp only [hanE.hanL] at h
    split at h
    · simp only [Bool.and_eq_true] at h
      simp only [lenX, List.length_cons, hanL_len l _ h.2]
    · cases h
theorem h_const {X' : Cx} {A : Addr} {cls : Value} {dd : Option Addr} {i : Option Nat} {v : V} {d : Ev.D} {ev : Nat → List Ev.D → Fr → Store → Rs Ev.D} (h : PE X' e (tC v)) (he : ∀ k l ρ S, ev k l ρ S = .ok d S) (r : ∀ m H, Rep G m H d v) : PE X' e (tH G A cls dd i (Rep G) ev) :=
  pe_imp h fun σ H Q ⟨m, ρ, S, k, l, dx, re, rs, hc, hdd, xr, hi, q⟩ => by
    rw [he] at q
    exact q.at_ok rs (r m H)
mutual
theorem okH (hd : Hd G) (xd : Xd G) (c : Ctx G n X s W) {A : Addr} {oe : Obj} {cls : Value} {dd : Option Addr} {pn : List (Addr × Obj)} (hz : Zc cls dd oe) (hf : ∃ vs, oe.data = .fields vs) (i : Option Nat) : ∀ (h : Ex) (v : Expr), hanE s G.M h v = true → PE (X.suite A ((A, oe) :: pn)) v (tH G A cls dd i (Rep G) fun k l => evH G.T k l i h)
  | .var j, v, h => by
    simp only [hanE] at h
    split at h
    · rename_i nm pp
      obtain ⟨h1, h2, h3, h4⟩ := c.see h
      refine pe_imp (pe_var (X := X.suite A ((A, oe) :: pn)) h1 h2 h3 h4) fun σ H Q ⟨m, ρ, S, k, l, dx, re, rs, hc, hdd, xr, hi, q⟩ => ?_
      simp only [evH] at q
      split at q
      · exact q.elim
      · split at q
        · rename_i d e
          obtain ⟨w, hw, r⟩ := re.at_ j d e
          exact ⟨w, hw, q.at_ok rs r⟩
        · exact q.elim
    · cases h
  | .non, v, h => by
    simp only [hanE] at h
    split at h
    · exact h_const pe_non (fun k l ρ S => by simp only [evH]) fun _ _ => rep_non
    · cases h
  | .bl b, v, h => by
    simp only [hanE] at h
    split at h
    · simp only [beq_iff_eq] at h
      subst h
      exact h_const pe_bl (fun k l ρ S => by simp only [evH]) fun _ _ => rep_bl
    · cases h
  | .int b, v, h => by
    simp only [hanE] at h
    split at h
    · simp only [decide_eq_true_eq] at h
      subst h
      exact h_const pe_int (fun k l ρ S => by simp only [evH]) fun _ _ => rep_int
    · cases h
  | .str b, v, h => by
    simp only [hanE] at h
    split at h
    · simp only [decide_eq_true_eq] at h
      subst h
      exact h_const pe_str (fun k l ρ S => by simp only [evH]) fun _ _ => rep_str
    · cases h
  | .tup es, v, h => by
    simp only [hanE] at h
    split at h
    · rename_i vs k2 pp
      simp only [Bool.and_eq_true, decide_eq_true_eq] at h
      refine pe_imp (pe_tup (okHL hd xd c hz hf i es _ h.2)) fun σ H Q ⟨m, ρ, S, k, l, dx, re, rs, hc, hdd, xr, hi, q⟩ => ?_
      simp only [evH] at q
      refine ⟨m, ρ, S, k, l, dx, re, rs, hc, hdd, xr, hi, ?_⟩
      show Fin G noW σ (RepL G) m H (evH.evHL G.T k l i es ρ S) _
      cases e : evH.evHL G.T k l i es ρ S with
      | ok ds S' =>
        rw [e, th_ok] at q
        intro m' H' us x rs' r
        refine ⟨by rw [← r.length, evHL_len es e, hanL_len es _ h.2, ← lim]; exact h.1, fun p hp => fin_tup rs' r hp ((Fin.ext x q).toV (by intro _ _ _ z; cases z))⟩
      | ex _ _ _ => rw [e] at q; exact q
      | bad => rw [e] at q; exact q
    · cases h
  | .glb _, v, h => by simp [hanE] at h
  | .bin .., v, h => by simp [hanE] at h
  | .neg _, v, h => by simp [hanE] at h
  | .cmp .., v, h => by simp [hanE] at h
  | .chn .., v, h => by simp [hanE] at h
  | .isN .., v, h => by simp [hanE] at h
  | .and .., v, h => by simp [hanE] at h
  | .or .., v, h => by simp [hanE] at h
  | .not _, v, h => by simp [hanE] at h
  | .ife .., v, h => by simp [hanE] at h
  | .lst .., v, h => by simp [hanE] at h
  | .idx .., v, h => by simp [hanE] at h
  | .slc .., v, h => by simp [hanE] at h
  | .call .., v, h => by simp [hanE] at h
  | .calk .., v, h => by simp [hanE] at h
  | .mak .., v, h => by simp [hanE] at h
  | .makk .., v, h => by simp [hanE] at h
  | .mth .., v, h => by simp [hanE] at h
  | .bi .., v, h => by simp [hanE] at h
  | .isI .., v, h => by simp [hanE] at h
  | .bm .., v, h => by simp [hanE] at h
  | .lc .., v, h => by simp [hanE] at h
  | .att a f, v, h => by
    cases a with
    | var j =>
      simp only [hanE] at h
      split at h
      · rename_i nm p1 fn p2
        simp only [Bool.and_eq_true, decide_eq_true_eq] at h
        obtain ⟨h1, h2, h3, h4⟩ := c.see h.1
        refine ⟨fun pins st σ H Q I ⟨m, ρ, S, k, l, dx, re, rs, hc, hdd, xr, hi, q⟩ => ?_⟩
        simp only [evH] at q
        split at q
        · rename_i hij
          obtain ⟨d, ed, q2⟩ := q.at_oe
          obtain ⟨vs, hx, r, hlen, hk⟩ := xr
          obtain ⟨xf, xn⟩ := xd.xf k hk
          have hfm : f ∈ excF G.T k := List.contains_iff_mem.mp (mem_look ed)
          have hno := xn f hfm
          rw [att_of h.2] at hno
          obtain ⟨w, hw, rw_⟩ := look_zip hd r ed
          rw [att_of h.2] at hw
          exact (pe_xf (C := G.xa k) (by rw [c.K]; exact xf) (by rw [c.K]; exact hno) hz hf (pe_var (X := X.suite A ((A, oe) :: pn)) h1 h2 h3 h4) rfl).run pins st σ H Q I ⟨_, hi j hij.1 (by rw [← re.len]; exact hij.2), rfl, hc, dx, _, w, hdd, hx, hw, q2.at_ok rs rw_⟩
        · exact q.elim
      · cases h
    | _ => simp [hanE] at h
theorem okHL (hd : Hd G) (xd : Xd G) (c : Ctx G n X s W) {A : Addr} {oe : Obj} {cls : Value} {dd : Option Addr} {pn : List (Addr × Obj)} (hz : Zc cls dd oe) (hf : ∃ vs, oe.data = .fields vs) (i : Option Nat) : ∀ (h : Exs) (vs : List Expr), hanE.hanL s G.M h vs = true → PA (X.suite A ((A, oe) :: pn)) vs (tH G A cls dd i (RepL G) fun k l => evH.evHL G.T k l i h)
  | .nil, vs, h => by
    simp only [hanE.hanL, List.isEmpty_iff] at h
    subst h
    exact pa_imp pa_nil fun σ H Q ⟨m, ρ, S, k, l, dx, re, rs, hc, hdd, xr, hi, q⟩ => by
      simp only [evH.evHL] at q
      exact q.at_ok rs RepL.nil
  | .cons a es, vs, h => by
    simp only [hanE.hanL] at h
    split at h
    · rename_i x0 r0
      simp only [Bool.and_eq_true] at h
      refine pa_imp (pa_cons (okH hd xd c hz hf i a _ h.1) (okHL hd xd c hz hf i es _ h.2) (star_of ?_)) fun σ H Q ⟨m, ρ, S, k, l, dx, re, rs, hc, hdd, xr, hi, q⟩ => ?_
      · exact han_star a _ h.1
      · simp only [evH.evHL] at q
        refine tH.go re rs hc hdd xr hi q fun d S1 m1 H1 v1 x1 re1 rs1 r1 xr1 q1 => ?_
        refine tH.go re1 rs1 hc hdd xr1 hi q1 fun d2 S2 m2 H2 v2 x2 re2 rs2 r2 xr2 q2 => ?_
        exact q2.at_ok rs2 (RepL.cons (Rep.mono x2 _ _ r1) r2)
    · cases h
end
/-! #### try -/
theorem names_of (xd : Xd G) (c : Ctx G n X s W) {k : Nat} {nm : Str} (hg : gloB s nm = true) (hn : G.M.exc[k]? = some nm) : Names X nm (.ref (G.xa k)) := by
  obtain ⟨g1, g2, g3, g4, g5⟩ := c.glo hg
  exact ⟨g1, g2, .inl (by rw [c.mg]; exact (xd.mg k nm hn).1)⟩
theorem try_fin (xd : Xd G) {T : Tb} (hT : T = G.T) {m : List Addr} {H : Hp} {k x : Nat} {L : List Ev.D} {i : Option Nat} {h : Ex} {ρ1 ρ2 : Fr} {S1 : Store} {D : Ends} (hk : k < G.T.exc.length)
    (q : FinS G W m H (if (ancOf T x).contains k then (evH T x L i h ρ2 S1).nox.os ρ1 fun d S2 => .rt d S2 else .ex x L ρ1 S1) D) {m' : List Addr} {H' : Hp} {dx : Addr} {σ' : L2.St} (x' : Ext m H m' H') (re : RE G m' H' ρ1 σ') (rs : RS G m' H' S1) (xr : XRep G m' H' x L dx) :
    ∃ b, PySem.W.exmOne G.K (.ref (G.xa x)) (.ref (G.xa k)) = some b ∧ (b = true → ∀ (A : Addr) (τ : L2.St), RE G m' H' ρ2 τ → (∀ j, i = some j → j < τ.length → τ[j]? = some (some (.ref A))) → tH G A (.ref (G.xa x)) (some dx) i (Rep G) (fun k l => evH G.T k l i h) τ H' D.rt) ∧ (b = false → W (.ref (G.xa x)) (some dx) σ' H') := by
  subst hT
  have hx : x < G.T.exc.length := by
    obtain ⟨_, _, _, _, hx⟩ := xr
    exact hx
  refine ⟨(ancOf G.T x).contains k, xd.exm x k hx hk, fun hb A τ re2 hi => ?_, fun hb => ?_⟩
  · rw [if_pos hb] at q
    refine ⟨m', ρ2, S1, x, L, dx, re2, rs, rfl, rfl, xr, hi, ?_⟩
    show Fin G noW τ (Rep G) m' H' (evH G.T x L i h ρ2 S1) _
    cases e : evH G.T x L i h ρ2 S1 with
    | ok d S2 =>
      rw [e] at q
      exact fun m2 H2 v x2 rs2 r2 => q m2 H2 v (x'.trans x2) rs2 r2
    | ex _ _ _ => rw [e] at q; exact q.elim
    | bad => rw [e] at q; exact q.elim
  · rw [if_neg (by rw [hb]; exact Bool.false_ne_true)] at q
    exact q m' H' dx σ' x' re rs xr
theorem s_try (hd : Hd G) (xd : Xd G) (c : CtxS G n X s W) (hT : C.T = G.T) {k : Nat} {nm : Str} {np hp rp : Pos} {B : Sts} {h : Ex} {body : List Stmt} (hg : gloB s nm = true) (hn : G.M.exc[k]? = some nm)
    (hb : ∀ (W1 : WX) (pn : List (Addr × Obj)) (xe : Value → Shared → Prop), Takes (X.tr pn xe) W1 → PassesOwn (model X.prog X.w) X.A X.env xe → PSs (X.tr pn xe) body (tS G W1 (exSs C B))) (hh : hanE s G.M h x = true) :
    PS X (.Try body [.ExceptHandler (some (.Name nm np)) none [.Return (some x) rp] hp] [] [] pos) (tS G W (exS C (.tryE B k none h))) := by
  have q0 := ps_try_only (pos := pos) (pos' := hp) (np := np) c.stk c.fr (names_of xd c.c hg hn) c.c.tk (tb := fun W1 => tS G W1 (exSs C B)) (ts := fun A cls dd => tRet (tH G A cls dd none (Rep G) fun k l => evH G.T k l none h)) hb (fun A oe cls dd pn hz hf => pss_one (ps_ret (pos := rp) (okH hd xd c.c hz hf none h x hh)))
  refine ps_imp q0 fun D σ H ⟨m, ρ, S, re, rs, q⟩ => ⟨m, ρ, S, re, rs, ?_⟩
  simp only [exS] at q
  cases e : exSs C B ρ S with
  | ex xc L ρ1 S1 =>
    rw [e] at q
    intro m' H' dx σ' x' re' rs' xr
    obtain ⟨b, h1, h2, h3⟩ := try_fin xd hT (xd.mg k nm hn).2 q x' re' rs' xr
    exact ⟨b, by rw [c.c.K]; exact h1, fun hb A _ => h2 hb A σ' re' (fun j hj _ => by cases hj), h3⟩
  | nx ρ1 S1 => rw [e] at q; exact q
  | rt d S1 => rw [e] at q; exact q
  | bk ρ1 S1 => rw [e] at q; exact q
  | ct ρ1 S1 => rw [e] at q; exact q
  | bad => rw [e] at q; exact q
theorem s_tryAs (hd : Hd G) (xd : Xd G) (c : CtxS G n X s W) (hT : C.T = G.T) {k j : Nat} {nm y : Str} {np hp rp : Pos} {B : Sts} {h : Ex} {body : List Stmt} (hg : gloB s nm = true) (hn : G.M.exc[k]? = some nm) (hj : s.N[j]? = some y) (hy : s.sc.names.lookup y = some .local)
    (hb : ∀ (W1 : WX) (pn : List (Addr × Obj)) (xe : Value → Shared → Prop), Takes (X.tr pn xe) W1 → PassesOwn (model X.prog X.w) X.A X.env xe → PSs (X.tr pn xe) body (tS G W1 (exSs C B))) (hh : hanE s G.M h x = true) :
    PS X (.Try body [.ExceptHandler (some (.Name nm np)) (some y) [.Return (some x) rp] hp] [] [] pos) (tS G W (exS C (.tryE B k (some j) h))) := by
  have q0 := ps_try_as (pos := pos) (pos' := hp) (np := np) c.stk c.fr c.c.nN (by rw [c.c.N]; exact hj) (show X.env.scope.names.lookup y = some .local by rw [c.c.sc]; exact hy) (names_of xd c.c hg hn) c.c.tk (tb := fun W1 => tS G W1 (exSs C B)) (ts := fun A cls dd => tRet (tH G A cls dd (some j) (Rep G) fun k l => evH G.T k l (some j) h)) hb (fun A oe cls dd pn hz hf => pss_one (ps_ret (pos := rp) (okH hd xd c.c hz hf (some j) h x hh)))
  refine ps_imp q0 fun D σ H ⟨m, ρ, S, re, rs, q⟩ => ⟨m, ρ, S, re, rs, ?_⟩
  simp only [exS] at q
  cases e : exSs C B ρ S with
  | ex xc L ρ1 S1 =>
    rw [e] at q
    intro m' H' dx σ' x' re' rs' xr
    obtain ⟨b, h1, h2, h3⟩ := try_fin xd hT (xd.mg k nm hn).2 q x' re' rs' xr
    refine ⟨b, by rw [c.c.K]; exact h1, fun hb A _ => h2 hb A (σ'.set j (some (.ref A))) (re'.gone _) (fun j' hj' hl => ?_), h3⟩
    cases hj'
    rw [List.length_set] at hl
    rw [List.getElem?_set_self hl]
  | nx ρ1 S1 => rw [e] at q; exact q
  | rt d S1 => rw [e] at q; exact q
  | bk ρ1 S1 => rw [e] at q; exact q
  | ct ρ1 S1 => rw [e] at q; exact q
  | bad => rw [e] at q; exact q
end
end Ev
end
section
set_option maxRecDepth 100000
set_option maxHeartbeats 8000000
/-! Ev, part 18: every checked statement does what the evaluator says; defs. -/
namespace Ev
open PySem PySem.Spec PyProof.Rows L2
theorem no_swap2 {ts : List Expr} {v : Expr} {kt : Nat} {pt : Pos} {env : Env} (h : notTuple v = true) : swappedStores [.Tuple ts kt pt] v env = pure none := by
  cases v <;> first | rfl | (simp [notTuple] at h)
section
variable {G : Pg} {n : Nat} {C : Cs} (hd : Hd G) (np : NpOk G) (xd : Xd G) (xm : XMk G) (hC : C = csOf G.T n)
include hd np xd xm hC
mutual
theorem okS : ∀ (a : Ev.St) (s : Sx) (W : WX) (X : Cx) (st : Stmt), CtxS G n X s W → chkS G.M a s st = true → PS X st (tS G W (exS C a))
  | .ex e, s, W, X, st, c, h => by
    simp only [chkS] at h
    split at h
    · simp only [Bool.and_eq_true] at h
      exact s_ex (okE hd np hC e s W X _ c.c h.2).1 h.1
    · cases h
  | .asg i e, s, W, X, st, c, h => by
    simp only [chkS] at h
    split at h
    · rename_i nm px v pp
      simp only [Bool.and_eq_true] at h
      by_cases hn : notComp v = true
      · exact s_asg c (okE hd np hC e s W X _ c.c h.2).1 h.1 (sw_none hn)
      · exact s_asgLc hd np hC c h.2 hn h.1
    · cases h
  | .asgT is e, s, W, X, st, c, h => by
    simp only [chkS] at h
    split at h
    · rename_i ts k pt v pp
      simp only [Bool.and_eq_true] at h
      refine s_asgT c (okE hd np hC e s W X _ c.c h.2.2).1 h.2.1 ?_
      obtain ⟨h1, _⟩ := h
      split at h1
      · refine no_swap ?_
        simp only [Bool.or_eq_true, Bool.not_eq_true'] at h1
        exact h1
      · rename_i hnt
        exact no_swap2 (by
          cases v <;> first | rfl | exact (hnt _ _ _ rfl).elim)
    · cases h
  | .swp i j a b, s, W, X, st, c, h => by
    simp only [chkS] at h
    split at h
    · simp only [Bool.and_eq_true, Bool.not_eq_true', beq_eq_false_iff_ne] at h
      obtain ⟨h1, h2, h3, h4, h5, h6⟩ := h
      exact s_swp c h1 h2 h3 h4 (okE hd np hC a s W X _ c.c h5).1 (chk_form _ _ _ h5).1 (okE hd np hC b s W X _ c.c h6).1 (chk_form _ _ _ h6).1
    · cases h
  | .asgI o i e, s, W, X, st, c, h => by
    simp only [chkS] at h
    split at h
    · simp only [Bool.and_eq_true] at h
      obtain ⟨h1, h2, h3, h4⟩ := h
      exact s_asgI c (okE hd np hC o s W X _ c.c h2).1 (okE hd np hC i s W X _ c.c h3).1 (okE hd np hC e s W X _ c.c h4).1 h1
    · cases h
  | .augN i sb e, s, W, X, st, c, h => by
    simp only [chkS] at h
    split at h
    · simp only [Bool.and_eq_true] at h
      obtain ⟨h1, h2, h3⟩ := h
      exact s_augN c (okE hd np hC e s W X _ c.c h3).1 h2 h1
    · cases h
  | .augI o i sb e, s, W, X, st, c, h => by
    simp only [chkS] at h
    split at h
    · simp only [Bool.and_eq_true] at h
      obtain ⟨h0, h1, h2, h3, h4⟩ := h
      exact s_augI c (okE hd np hC o s W X _ c.c h2).1 (okE hd np hC i s W X _ c.c h3).1 (okE hd np hC e s W X _ c.c h4).1 h1 h0
    · cases h
  | .asg2 i j e, s, W, X, st, c, h => by
    simp only [chkS] at h
    split at h
    · simp only [Bool.and_eq_true] at h
      obtain ⟨h1, h2, h3, h4⟩ := h
      exact s_asg2 c (okE hd np hC e s W X _ c.c h4).1 h1 h2 rfl
    · cases h
  | .asgA o f e, s, W, X, st, c, h => by
    simp only [chkS] at h
    split at h
    · simp only [Bool.and_eq_true, decide_eq_true_eq] at h
      obtain ⟨h1, h2, h3⟩ := h
      exact s_asgA hd c (by rw [hC, csOf_T]) h1 (okE hd np hC o s W X _ c.c h2).1 (okE hd np hC e s W X _ c.c h3).1
    · cases h
  | .ret e, s, W, X, st, c, h => by
    simp only [chkS] at h
    split at h
    · exact s_ret (okE hd np hC e s W X _ c.c h).1
    · cases h
  | .retN, s, W, X, st, c, h => by
    simp only [chkS] at h
    split at h
    · exact s_retN
    · cases h
  | .pas, s, W, X, st, c, h => by
    simp only [chkS] at h
    split at h
    · exact s_pas
    · cases h
  | .nev, s, W, X, st, c, h => ⟨fun pins st σ H D I ⟨m, ρ, S, re, rs, q⟩ => by
      simp only [exS] at q
      exact q.elim⟩
  | .brk, s, W, X, st, c, h => by
    simp only [chkS] at h
    split at h
    · exact s_brk
    · cases h
  | .cnt, s, W, X, st, c, h => by
    simp only [chkS] at h
    split at h
    · exact s_cnt
    · cases h
  | .ife d a b, s, W, X, st, c, h => by
    simp only [chkS] at h
    split at h
    · simp only [Bool.and_eq_true] at h
      exact s_if (okE hd np hC d s W X _ c.c h.1).2.pt (okSs a s W X _ c h.2.1) (okSs b s W X _ c h.2.2)
    · cases h
  | .whl d b, s, W, X, st, c, h => by
    simp only [chkS] at h
    split at h
    · simp only [Bool.and_eq_true] at h
      exact s_whl c (okE hd np hC d s W X _ c.c h.1).2.pt (okSs b s W X _ c h.2)
    · cases h
  | .forr tg it b, s, W, X, st, c, h => by
    simp only [chkS] at h
    split at h
    · simp only [Bool.and_eq_true] at h
      exact s_for c (okW hd np hC it s W X _ _ c.c h.2.1) (chkW_set _ _ _ _ h.2.1) h.1 (okSs b s W X _ c h.2.2)
    · cases h
  | .rai k es, s, W, X, st, c, h => by
    simp only [chkS] at h
    split at h
    · simp only [Bool.and_eq_true, decide_eq_true_eq] at h
      exact s_rai xm xd c (by rw [hC, csOf_T]) h.2.1 h.1 h.2.2 (okL hd np hC es s W X _ c.c h.2.2)
    · cases h
  | .tryE b k i hx, s, W, X, st, c, h => by
    simp only [chkS] at h
    split at h
    · simp only [Bool.and_eq_true, decide_eq_true_eq] at h
      obtain ⟨h1, h2, h3, h4, h5⟩ := h
      split at h5
      · exact s_try hd xd c (by rw [hC, csOf_T]) h1 h2 (fun W1 pn xe tk po => okSs b s W1 _ _ (c.tr tk po) h3) h4
      · simp only [Bool.and_eq_true, decide_eq_true_eq] at h5
        exact s_tryAs hd xd c (by rw [hC, csOf_T]) h1 h2 h5.1 h5.2 (fun W1 pn xe tk po => okSs b s W1 _ _ (c.tr tk po) h3) h4
      · cases h5
    · cases h
theorem okSs : ∀ (a : Sts) (s : Sx) (W : WX) (X : Cx) (sts : List Stmt), CtxS G n X s W → chkSs G.M a s sts = true → PSs X sts (tS G W (exSs C a))
  | .nil, s, W, X, sts, c, h => by
    simp only [chkSs, List.isEmpty_iff] at h
    subst h
    exact s_nil
  | .cons a b, s, W, X, sts, c, h => by
    simp only [chkSs] at h
    split at h
    · simp only [Bool.and_eq_true] at h
      exact s_cons (okS a s W X _ c h.1) (okSs b s W X _ c h.2)
    · cases h
end
end
end Ev
end
section
set_option maxRecDepth 100000
set_option maxHeartbeats 8000000
/-! Ev, part 19: defs, level by level. -/
namespace Ev
open PySem PySem.Spec PyProof.Rows L2
/-- what of a def is known -/
def FnFact (G : Pg) (f : Nat) (F : Fn) : Prop := ∃ (x qual : Str) (params : Arguments) (body : List Stmt) (scope : Scope) (N : List Str) (dvs : List V) (kws : List (Str × V)),
  FunD G.K x qual params body scope dvs kws (G.fa f) (G.fd f) ∧ FnScope N (G.ps f) scope ∧ N.length = F.nv ∧ F.np ≤ F.nv ∧ chkSs G.M F.body ⟨N, scope, none⟩ body = true
section
variable {G : Pg} {n : Nat} {m : List Addr} {H : Hp} {S : Store}
theorem re_start {ds : List D} {vs : List V} {N : List Str} {nv : Nat} (hN : N.length = nv) (hl : ds.length ≤ nv) (r : RepL G m H ds vs) : RE G m H (startF nv ds) (L2.start N vs) := by
  subst hN
  have hv := r.length
  refine ⟨?_, fun i d e => ?_⟩
  · unfold startF L2.start
    simp only [List.length_append, List.length_map, List.length_replicate]
    omega
  · unfold startF at e
    unfold L2.start
    by_cases hi : i < ds.length
    · rw [List.getElem?_append_left (by simpa using hi)] at e
      rw [List.getElem?_append_left (by rw [List.length_map, ← hv]; exact hi)]
      simp only [List.getElem?_map, Option.map_eq_some_iff, Option.some.injEq, exists_eq_right] at e
      obtain ⟨v, hv2, q⟩ := r.get e
      exact ⟨v, by simp [hv2], q⟩
    · rw [List.getElem?_append_right (by simpa using hi)] at e
      rw [List.getElem?_replicate] at e
      split at e <;> cases e
theorem tidy_fin {W : WX} {fz : Bool} {r : Os} {Q : VK} (rs : RS G m H S) (h : Fin G W [] (Rep G) m H (tidy fz S (toR r)) fun _ _ _ H' v => Q v H') (hW : ∀ c d σ σ' H, W c d σ H ↔ W c d σ' H) : FinS G W m H r { nx := fun _ H' => Q .non H', rt := Q } := by
  have val : ∀ {d : D} {S' : Store}, (Fin G W [] (Rep G) m H (tidy fz S (.ok d S')) fun _ _ _ H' v => Q v H') → ∀ m' H' v, Ext m H m' H' → RS G m' H' S' → Rep G m' H' d v → Q v H' := by
    intro d S' h m' H' v x rs' rv
    simp only [tidy] at h
    split at h
    · rename_i hc
      obtain ⟨rs4, x4⟩ := rs'.drop x rs hc
      split at h
      · rename_i hb
        exact h m H' v x4 rs4 (Rep.less x.pre _ _ (by rw [rs.len]; exact hb) rv)
      · rename_i hnb
        split at h
        · split at h
          · rename_i i
            split at h
            · rename_i l el
              split at h
              · rename_i hb
                obtain ⟨p, rfl, hp⟩ := rv.ref_inv
                obtain ⟨p', hp', vs, hv, rl⟩ := rs'.cel _ _ el
                rw [hp] at hp'; cases hp'
                refine h m H' _ x4 rs4 (rep_lst ⟨fun hpm => ?_, .inl hv⟩ (RepL.less x.pre _ _ (by rw [rs.len]; exact hb) rl))
                obtain ⟨j, hj, ej⟩ := List.getElem_of_mem hpm
                have hj2 := pre_get x.pre (List.getElem?_eq_getElem hj)
                rw [ej] at hj2
                obtain ⟨l1, q1⟩ := List.getElem?_eq_some_iff.mp hj2
                obtain ⟨l2, q2⟩ := List.getElem?_eq_some_iff.mp hp
                have ij := (List.getElem_inj rs'.nd).mp (q1.trans q2.symm)
                apply hnb
                simp only [below, decide_eq_true_eq]
                rw [← rs.len, ← ij]
                exact hj
              · exact h m' H' _ x rs' rv
            · exact h m' H' _ x rs' rv
          · exact h m' H' _ x rs' rv
        · exact h m' H' _ x rs' rv
    · exact h m' H' _ x rs' rv
  cases r with
  | nx ρ S' => exact fun m' H' σ' x _ rs' => val h m' H' .non x rs' rep_non
  | rt d S' => exact fun m' H' v x rs' r => val h m' H' v x rs' r
  | bk ρ S' => exact h.elim
  | ct ρ S' => exact h.elim
  | bad => exact h.elim
  | ex c l ρ S' =>
    intro m' H' dx σ' x _ rs' xr
    rw [hW _ _ σ' []]
    simp only [toR, tidy] at h
    split at h
    · rename_i hb
      rw [Bool.and_eq_true] at hb
      obtain ⟨rs4, x4⟩ := rs'.drop x rs hb.1
      obtain ⟨us, hd1, ru, hl⟩ := xr
      exact h m H' dx x4 rs4 ⟨us, hd1, RepL.less x.pre _ _ (by rw [rs.len]; exact hb.2) ru, hl⟩
    · exact h m' H' dx x rs' xr
variable (hd : Hd G) (np : NpOk G) (xd : Xd G) (xm : XMk G) (ff : ∀ f F, G.T.fns[f]? = some F → FnFact G f F)
include hd np xd xm ff
theorem lv_succ (k : Nat) (lv : LvOk G k) (lv1 : ∀ j, k = j + 1 → LvOk G j) : LvOk G (k + 1) := by
  intro f hf
  have eF := List.getElem?_eq_getElem hf
  obtain ⟨x, qual, params, body, scope, N, dvs, kws, FD, FS, hN, hnp, hchk⟩ := ff f _ eF
  refine FD.ok FS (fun vs H Q E h => h.1) fun cdv A outer s H vs Q E hr hsp => ?_
  obtain ⟨hl, m, S, ds, rs, r, h⟩ := hsp
  have W : WX := fun c d _ H => E c d H
  have c : CtxS G k (cxOf (L2.CX G.P G.w) G.P G.w G.K G.mg G.base N qual scope (G.fa f) cdv A outer s H E) ⟨N, scope, none⟩ (fun c d _ H => E c d H) := {
    c := {
      prog := rfl, w := rfl, K := rfl, mg := rfl, base := rfl, N := rfl, nd := FS.nd, sc := rfl
      fn := fun _ _ _ => rfl
      calm := rfl
      tk := takes_of (X := cxOf (L2.CX G.P G.w) G.P G.w G.K G.mg G.base N qual scope (G.fa f) cdv A outer s H E) rfl rfl rfl rfl
      room := hr, lv := lv, lv1 := lv1 }
    po := passes_of (X := cxOf (L2.CX G.P G.w) G.P G.w G.K G.mg G.base N qual scope (G.fa f) cdv A outer s H E) rfl
    stk := rfl, fr := rfl, kd := FS.kind }
  refine ⟨_, okSs hd np xd xm rfl _ _ _ _ _ c hchk, m, startF (G.T.fns[f]).nv ds, S, ?_, rs, ?_⟩
  · refine re_start hN ?_ r
    rw [r.length, hl, np f _ eF]
    exact hnp
  · rw [run_succ] at h
    unfold runB at h
    rw [csOf_T, eF] at h
    simp only at h
    split at h
    · exact tidy_fin (W := fun c d _ H => E c d H) rs h fun _ _ _ _ _ => Iff.rfl
    · exact h.elim
/-- at level 0 nothing runs -/
theorem lv_zero : LvOk G 0 := by
  intro f hf
  have eF := List.getElem?_eq_getElem hf
  obtain ⟨x, qual, params, body, scope, N, dvs, kws, FD, FS, hN, hnp, hchk⟩ := ff f _ eF
  refine ⟨fun vs H Q E h => h.1, fun A outer s H args us vs Q E hr e0 hb r hsp => ?_⟩
  obtain ⟨hl, m, S, ds, rs, rr, h⟩ := hsp
  rw [run_zero] at h
  exact h.elim
theorem lv_all : ∀ k, LvOk G k ∧ ∀ j, k = j + 1 → LvOk G j
  | 0 => ⟨lv_zero hd np xd xm ff, fun j h => by cases h⟩
  | k + 1 => by
    obtain ⟨h1, h2⟩ := lv_all k
    exact ⟨lv_succ hd np xd xm ff k h1 h2, fun j h => by cases h; exact h1⟩
end
end Ev
end
section
set_option maxRecDepth 100000
set_option maxHeartbeats 8000000
/-! Ev, part 20: the head. -/
namespace Ev
open PySem PySem.Spec PyProof.Rows L2 He
/-- a def of the table -/
structure Ent where
  d : DefD
  N : List Str
  ps : List Str
def entD : Ent := ⟨⟨("", none), "", "", ⟨[], [], none, [], [], none, []⟩, [], ⟨.function, [], false, false, []⟩, [], []⟩, [], []⟩
def fdOf (K : PySem.W.Frag) (a : Addr) (e : FuncData) : FuncData := match K.lookup a with
  | some ⟨_, _, .func fd, _⟩ => fd
  | _ => e
def fd0 : FuncData := PySem.W.fnOf "" "" ⟨[], [], none, [], [], none, []⟩ [] ⟨.function, [], false, false, []⟩ .none .none .none .none none .none .none
def mkG (P : Program) (w : World) (K : PySem.W.Frag) (mg : Str → Option Value) (base : Heap) (M : Nm) (T : Tb) (es : List Ent) : Pg where
  P := P
  w := w
  K := K
  mg := mg
  base := base
  M := M
  T := T
  ca := fun c => ga K (M.cls.getD c "")
  xa := fun c => ga K (M.exc.getD c "")
  fa := fun f => fAd K (es.getD f entD).d.at_
  fd := fun f => fdOf K (fAd K (es.getD f entD).d.at_) fd0
  ps := fun f => (es.getD f entD).ps
/-! #### what is checked of the text alone -/
def entB (M : Nm) (F : Fn) (e : Ent) : Bool :=
  decide (e.N.length = F.nv) && (decide (F.np ≤ F.nv) && (decide (e.ps.length = F.np) && (C8.scC e.N e.ps e.d.scope && (e.d.dfl.isEmpty && chkSs M F.body ⟨e.N, e.d.scope, none⟩ e.d.body))))
def entsB (M : Nm) : List Fn → List Ent → Bool
  | [], [] => true
  | F :: fs, e :: es => entB M F e && entsB M fs es
  | _, _ => false
def clB (n : Nat) (C : Cl) : Bool := (match C.init with
  | some f => decide (f < n)
  | none => false) && C.mths.all fun p => decide (p.2 < n)
def textB (M : Nm) (T : Tb) (es : List Ent) : Bool :=
  entsB M T.fns es && (M.atts.all (fun x => decide (x.length < 1000)) && (decide M.atts.Nodup && (decide (M.fns.length = T.fns.length) && (decide (M.cls.length = T.cls.length) && (decide (M.exc.length = T.exc.length) && (decide (M.glb.length = T.glb.length) &&
    (T.cls.all (clB T.fns.length) && M.kws.all fun q => decide (q.1 < T.fns.length))))))))
theorem entsB_get {M : Nm} : ∀ {fs : List Fn} {es : List Ent} {i : Nat} {F : Fn}, entsB M fs es = true → fs[i]? = some F → ∃ e, es[i]? = some e ∧ entB M F e = true
  | [], [], _, _, _, h => by simp at h
  | F :: fs, e :: es, 0, _, c, h => by
    simp only [entsB, Bool.and_eq_true] at c
    simp only [List.getElem?_cons_zero, Option.some.injEq] at h
    subst h
    exact ⟨e, rfl, c.1⟩
  | F :: fs, e :: es, i + 1, _, c, h => by
    simp only [entsB, Bool.and_eq_true] at c
    simp only [List.getElem?_cons_succ] at h ⊢
    exact entsB_get c.2 h
  | [], _ :: _, _, _, c, _ => by simp [entsB] at c
  | _ :: _, [], _, _, c, _ => by simp [entsB] at c
theorem entsB_len {M : Nm} : ∀ {fs : List Fn} {es : List Ent}, entsB M fs es = true → es.length = fs.length
  | [], [], _ => rfl
  | F :: fs, e :: es, c => by
    simp only [entsB, Bool.and_eq_true] at c
    exact congrArg Nat.succ (entsB_len c.2)
  | [], _ :: _, c => by simp [entsB] at c
  | _ :: _, [], c => by simp [entsB] at c
/-! #### what is checked of the written part -/
mutual
def glbB (K : PySem.W.Frag) : D → Value → Bool
  | .non, .none => true
  | .bl b, .bool c => b == c
  | .int i, .int j _ => decide (i = j)
  | .str s, .str x _ => decide (x = ⟨s.toArray⟩)
  | .tup l, .ref a => (match K.lookup a with
    | some ⟨.type c, _, .seq its _, _⟩ => decide (c = "tuple") && (decide (its.size ≤ sizeLine) && glbL K l its.toList)
    | _ => false)
  | _, _ => false
def glbL (K : PySem.W.Frag) : List D → List Value → Bool
  | [], [] => true
  | d :: l, u :: us => glbB K d u && glbL K l us
  | _, _ => false
end
def clsB (K : PySem.W.Frag) (M : Nm) (fa : Nat → Addr) (n c : Nat) (C : Cl) : Bool :=
  let x := M.cls.getD c ""
  let a := ga K x
  (Fa.glo x).ok K && ((Fa.cls x).ok K && ((Fa.mkr x).ok K && (eqO (PySem.W.findIn K (.ref a) "__class__") (some (some (.builtin "object.__class__"))) && (eqO (PySem.W.specialIn K (.builtin "object.__class__") "__get__") (some (some (.builtin "getset_descriptor.__get__"))) &&
    (decide (PySem.W.takesIn K (.builtin "object.__class__") = some true) && (decide (PySem.W.mroIn K a (.type "object") = some true) && ([Bt.int, .bool, .str, .tuple, .list, .dict].all (fun t => decide (PySem.W.kitOne K (.ref a) (.type t.nm) = some false)) &&
    ((List.range n).all (fun k => decide (PySem.W.kitOne K (.ref a) (.ref (ga K (M.cls.getD k ""))) = some (c == k))) && (["NoneType", "bool", "int", "str", "tuple", "list", "dict"].all (fun n => decide (PySem.W.kitOne K (.type n) (.ref a) = some false)) &&
    (C.flds.all (fun f => (Fa.noat x (M.atts.getD f "")).ok K && decide (f < M.atts.length)) && (C.mths.all (fun p => (Fa.meth x (M.atts.getD p.1 "")).ok K && (decide (p.1 < M.atts.length) && decide (ma K a (M.atts.getD p.1 "") = fa p.2))) &&
    (match C.init with
      | some f => decide (ma K a "__init__" = fa f)
      | none => false))))))))))))
def allI {α : Type} (p : Nat → α → Bool) : Nat → List α → Bool
  | _, [] => true
  | i, x :: l => p i x && allI p (i + 1) l
theorem allI_get {α : Type} {p : Nat → α → Bool} : ∀ {l : List α} {k i : Nat} {x : α}, allI p k l = true → l[i]? = some x → p (k + i) x = true
  | [], _, _, _, _, h => by simp at h
  | y :: l, k, 0, x, c, h => by
    simp only [allI, Bool.and_eq_true] at c
    simp only [List.getElem?_cons_zero, Option.some.injEq] at h
    subst h
    exact c.1
  | y :: l, k, i + 1, x, c, h => by
    simp only [allI, Bool.and_eq_true] at c
    simp only [List.getElem?_cons_succ] at h
    have := allI_get c.2 h
    rwa [show k + 1 + i = k + (i + 1) by omega] at this
def excB (K : PySem.W.Frag) (M : Nm) (T : Tb) (c : Nat) (fs : List Nat) : Bool :=
  let x := M.exc.getD c ""
  let a := ga K x
  (Fa.glo x).ok K && (xfB K a && ((List.range T.exc.length).all (fun k => (Fa.exm x (M.exc.getD k "") ((ancOf T c).contains k)).ok K) && fs.all (fun f => eqO (PySem.W.findIn K (.ref a) (M.atts.getD f "")) (some none) && decide (f < M.atts.length))))
def headB (M : Nm) (T : Tb) (es : List Ent) (xB : PySem.W.Frag → Nat → Bool) (K : PySem.W.Frag) : Bool :=
  bltL.all (fun x => (Fa.free x).ok K) && (allI (fun (f : Nat) (x : Str) => decide (x = "") || ((Fa.glo x).ok K && decide ((es.getD f entD).d.at_ = (x, none)))) 0 M.fns && (es.all (fun e => e.d.ok K) &&
    (allI (clsB K M (fun f => fAd K (es.getD f entD).d.at_) T.cls.length) 0 T.cls && (allI (excB K M T) 0 T.exc && (allI (fun (g : Nat) (x : Str) => (match PySem.W.nsIn K mainGlobals x with
      | some (some u) => glbB K (T.glb.getD g .non) u
      | _ => false)) 0 M.glb && (K.all (fun p => !decide (p.2.cls = .type "list")) && (List.range T.exc.length).all (xB K)))))))
/-! #### the Hook -/
def obsX (chk : PySem.W.Frag → Bool) (fn : List DefD) (K : PySem.W.Frag) : AlD := (chk K, fn.map fun d => fnW K d.at_)
def asX (g : Addr → Option Obj) (n : Nat) : List Addr := cStatics :: asD g n
def obsXG (n : Nat) (chk : PySem.W.Frag → Bool) (fn : List DefD) (g : Addr → Option Obj) : AlD := obsX chk fn (frG g (asX g n))
def hookX (n : Nat) (chk : PySem.W.Frag → Bool) (fn : List DefD) : PySem.W.Hook where
  α := AlD
  obs := fun s => obsXG n chk fn s.heap.get?
  val := fun _ => valD fn
  says := fun _ h => ∃ K : PySem.W.Frag, K.In h ∧ obsX chk fn K = valD fn
  of := fun _ _ e => ⟨_, frG_in, e⟩
  keeps := fun _ _ _ ⟨K, hK, c⟩ k => ⟨K, PySem.W.Frag.In.keeps hK k, c⟩
theorem obsXG_eq {n : Nat} {chk : PySem.W.Frag → Bool} {fn : List DefD} {g : Addr → Option Obj} {s : Shared} (h : ∀ a, g a = s.heap.get? a) : obsXG n chk fn g = (hookX n chk fn).obs s := by
  have e : g = s.heap.get? := funext h
  rw [e] <;> rfl
/-- how the values of a call are bound -/
def BnP (e : Ent) : Prop := ∀ (kV doc pm : Value) (an : Option Addr) (cdv ct : Value) (us : List Value), us.length = e.ps.length → bindArgs (PySem.W.fnOf e.d.name e.d.qual e.d.params e.d.body e.d.scope .none kV doc pm an cdv ct) ⟨us, []⟩ = pure (e.ps.zip us)
def BnK (e : Ent) (n : Nat) (ks : List Str) (pmm : List Nat) : Prop := ∀ (kV doc pm : Value) (an : Option Addr) (cdv ct : Value) (us ws : List Value), us.length = n → ws.length = ks.length →
  ∃ xs, pick (us ++ ws) pmm = some xs ∧ bindArgs (PySem.W.fnOf e.d.name e.d.qual e.d.params e.d.body e.d.scope .none kV doc pm an cdv ct) ⟨us, ks.zip ws⟩ = pure (e.ps.zip xs)
def BnC (e : Ent) (n : Nat) (ks : List Str) (pmm : List Nat) : Prop := ∀ (kV doc pm : Value) (an : Option Addr) (cdv ct : Value) (z : Value) (us ws : List Value), us.length = n → ws.length = ks.length →
  ∃ xs, pick (us ++ ws) pmm = some xs ∧ bindArgs (PySem.W.fnOf e.d.name e.d.qual e.d.params e.d.body e.d.scope .none kV doc pm an cdv ct) ⟨z :: us, ks.zip ws⟩ = pure (e.ps.zip (z :: xs))
end Ev
end
section
set_option maxRecDepth 100000
set_option maxHeartbeats 8000000
/-! Ev, part 21: from the checks to the facts. -/
namespace Ev
open PySem PySem.Spec PyProof.Rows L2 He
theorem ban {a b : Bool} (h : (a && b) = true) : a = true ∧ b = true := Bool.and_eq_true_iff.mp h
mutual
theorem glb_ok {G : Pg} : ∀ (d : D) (u : Value), glbB G.K d u = true → ∃ v, RelV v u ∧ ∀ m H, Rep G m H d v
  | .non, u, h => by
    cases u <;> first | (exact ⟨.non, rfl, fun _ _ => rep_non⟩) | (simp [glbB] at h)
  | .bl b, u, h => by
    cases u with
    | bool c =>
      simp only [glbB, beq_iff_eq] at h
      subst h
      exact ⟨.bl b, rfl, fun _ _ => rep_bl⟩
    | _ => simp [glbB] at h
  | .int i, u, h => by
    cases u with
    | int j t =>
      simp only [glbB, decide_eq_true_eq] at h
      subst h
      exact ⟨.int i, ⟨t, rfl⟩, fun _ _ => rep_int⟩
    | _ => simp [glbB] at h
  | .str s, u, h => by
    cases u with
    | str x t =>
      simp only [glbB, decide_eq_true_eq] at h
      subst h
      exact ⟨.str _, ⟨t, rfl⟩, fun _ _ => rep_str⟩
    | _ => simp [glbB] at h
  | .tup l, u, h => by
    cases u with
    | ref a =>
      simp only [glbB] at h
      split at h
      · rename_i c od its n sl e
        obtain ⟨h1, h2⟩ := ban h
        obtain ⟨h3, h4⟩ := ban h2
        obtain ⟨vs, r, q⟩ := glbL_ok l its.toList h4
        exact ⟨.ref a, rfl, fun m H => rep_tup (.inr ⟨_, its, n, e, congrArg Value.type (of_decide_eq_true h1), rfl, of_decide_eq_true h3, r⟩) (q m H)⟩
      · cases h
    | _ => simp [glbB] at h
  | .lst _, u, h => by cases u <;> simp [glbB] at h
  | .ref _, u, h => by cases u <;> simp [glbB] at h
  | .obj _ _, u, h => by cases u <;> simp [glbB] at h
theorem glbL_ok {G : Pg} : ∀ (l : List D) (us : List Value), glbL G.K l us = true → ∃ vs, Vals vs us ∧ ∀ m H, RepL G m H l vs
  | [], [], _ => ⟨[], .nil, fun _ _ => RepL.nil⟩
  | d :: l, u :: us, h => by
    simp only [glbL, Bool.and_eq_true] at h
    obtain ⟨v, r, q⟩ := glb_ok d u h.1
    obtain ⟨vs, rs, qs⟩ := glbL_ok l us h.2
    exact ⟨v :: vs, .cons r rs, fun m H => RepL.cons (q m H) (qs m H)⟩
  | [], _ :: _, h => by simp [glbL] at h
  | _ :: _, [], h => by simp [glbL] at h
end
section
variable {P : Program} {w : World} {K : PySem.W.Frag} {mg : Str → Option Value} {base h : Heap} {M : Nm} {T : Tb} {es : List Ent} {xB : PySem.W.Frag → Nat → Bool}
theorem att_at {i : Nat} (hi : i < M.atts.length) : (mkG P w K mg base M T es).att i = M.atts.getD i "" := by
  have e : M.atts[i]? = some M.atts[i] := List.getElem?_eq_getElem hi
  rw [att_of (G := mkG P w K mg base M T es) (show (mkG P w K mg base M T es).M.atts[i]? = some M.atts[i] from e)]
  rw [List.getD_eq_getElem?_getD, e]; rfl
theorem getD_of {α : Type} {l : List α} {i : Nat} {x d : α} (h : l[i]? = some x) : l.getD i d = x := by
  rw [List.getD_eq_getElem?_getD, h]; rfl
theorem mem_lookup {K : PySem.W.Frag} {a : Addr} {o : Obj} (e : K.lookup a = some o) : (a, o) ∈ K := by
  induction K with
  | nil => cases e
  | cons p K ih =>
    obtain ⟨b, ob⟩ := p
    rw [List.lookup_cons] at e
    split at e
    · rename_i hb
      cases e
      rw [beq_iff_eq] at hb
      subst hb
      exact List.mem_cons_self ..
    · exact List.mem_cons_of_mem _ (ih e)
theorem look_mem {α : Type} {f : Nat} {x : α} : ∀ {l : List (Nat × α)}, lookN f l = some x → (f, x) ∈ l
  | [], h => by simp [lookN] at h
  | (g, y) :: r, h => by
    simp only [lookN] at h
    split at h
    · rename_i e
      cases h
      subst e
      exact List.mem_cons_self ..
    · exact List.mem_cons_of_mem _ (look_mem h)
/-- all that is known at the head -/
structure AllK (P : Program) (w : World) (K : PySem.W.Frag) (mg : Str → Option Value) (base h : Heap) (M : Nm) (T : Tb) (es : List Ent) (xB : PySem.W.Frag → Nat → Bool) : Prop where
  X : K.In h
  N : h.Ns mainGlobals mg
  t : textB M T es = true
  k : headB M T es xB K = true
  fnw : es.map (fun e => fnW K e.d.at_) = es.map fun e => e.d.val
theorem AllK.funD (c : AllK P w K mg base h M T es xB) {f : Nat} {e : Ent} (he : es[f]? = some e) : FunD K e.d.name e.d.qual e.d.params e.d.body e.d.scope (e.d.dvs K) (e.d.kws K) (fAd K e.d.at_) ((mkG P w K mg base M T es).fd f) := by
  have hk := c.k
  unfold headB at hk
  obtain ⟨_, hk⟩ := ban hk
  obtain ⟨_, hk⟩ := ban hk
  obtain ⟨hes, _⟩ := ban hk
  have e1 := List.all_eq_true.mp hes e (List.mem_of_getElem? he)
  have e2 : (es.map fun e => fnW K e.d.at_)[f]? = (es.map fun e => e.d.val)[f]? := by rw [c.fnw]
  rw [List.getElem?_map, List.getElem?_map, he] at e2
  obtain ⟨fd, F⟩ := DefD.funD (Option.some.inj e2) e1
  have : (mkG P w K mg base M T es).fd f = fd := by
    obtain ⟨oc, od, dV, kV, doc, pm, an, cdv, ct, osl, e3, lk, _⟩ := F.ex
    show fdOf K (fAd K (es.getD f entD).d.at_) fd0 = fd
    rw [getD_of he]
    unfold fdOf
    rw [lk]
  rw [this]
  exact F
theorem AllK.ent (c : AllK P w K mg base h M T es xB) {f : Nat} {F : Fn} (hF : T.fns[f]? = some F) : ∃ e, es[f]? = some e ∧ e.N.length = F.nv ∧ F.np ≤ F.nv ∧ e.ps.length = F.np ∧ FnScope e.N e.ps e.d.scope ∧ e.d.dfl = [] ∧ chkSs M F.body ⟨e.N, e.d.scope, none⟩ e.d.body = true := by
  have ht := c.t
  unfold textB at ht
  obtain ⟨h1, _⟩ := ban ht
  obtain ⟨e, he, q⟩ := entsB_get h1 hF
  unfold entB at q
  obtain ⟨q1, q⟩ := ban q
  obtain ⟨q2, q⟩ := ban q
  obtain ⟨q3, q⟩ := ban q
  obtain ⟨q4, q⟩ := ban q
  obtain ⟨q5, q6⟩ := ban q
  exact ⟨e, he, of_decide_eq_true q1, of_decide_eq_true q2, of_decide_eq_true q3, C8.fnScope_by q4, List.isEmpty_iff.mp q5, q6⟩
theorem AllK.ff (c : AllK P w K mg base h M T es xB) (f : Nat) (F : Fn) (hF : (mkG P w K mg base M T es).T.fns[f]? = some F) : FnFact (mkG P w K mg base M T es) f F := by
  obtain ⟨e, he, h1, h2, h3, h4, h5, h6⟩ := c.ent hF
  refine ⟨e.d.name, e.d.qual, e.d.params, e.d.body, e.d.scope, e.N, e.d.dvs K, e.d.kws K, ?_, ?_, h1, h2, h6⟩
  · have := c.funD he
    show FunD K _ _ _ _ _ _ _ (fAd K (es.getD f entD).d.at_) _
    rw [getD_of he]
    exact this
  · show FnScope e.N (es.getD f entD).ps e.d.scope
    rw [getD_of he]
    exact h4
theorem AllK.np (c : AllK P w K mg base h M T es xB) : NpOk (mkG P w K mg base M T es) := fun f F hF => by
  obtain ⟨e, he, h1, h2, h3, h4, h5, h6⟩ := c.ent hF
  show (es.getD f entD).ps.length = F.np
  rw [getD_of he]
  exact h3
theorem AllK.hd (c : AllK P w K mg base h M T es xB) (bp : ∀ e ∈ es, BnP e) (bk : ∀ f n ks pm, (f, n, ks, pm) ∈ M.kws → ∀ e, es[f]? = some e → BnK e n ks pm)
    (bc : ∀ k n ks pm C f, (k, n, ks, pm) ∈ M.ckw → T.cls[k]? = some C → C.init = some f → ∀ e, es[f]? = some e → BnC e n ks pm) : Hd (mkG P w K mg base M T es) := by
  have ht := c.t
  unfold textB at ht
  obtain ⟨t1, ht⟩ := ban ht
  obtain ⟨t2, ht⟩ := ban ht
  obtain ⟨t3, ht⟩ := ban ht
  obtain ⟨t4, ht⟩ := ban ht
  obtain ⟨t5, ht⟩ := ban ht
  obtain ⟨t6, ht⟩ := ban ht
  obtain ⟨t7, ht⟩ := ban ht
  obtain ⟨t8, t9⟩ := ban ht
  have l4 : M.fns.length = T.fns.length := of_decide_eq_true t4
  have l5 : M.cls.length = T.cls.length := of_decide_eq_true t5
  have hk := c.k
  unfold headB at hk
  obtain ⟨k1, hk⟩ := ban hk
  obtain ⟨k2, hk⟩ := ban hk
  obtain ⟨k3, hk⟩ := ban hk
  obtain ⟨k4, hk⟩ := ban hk
  obtain ⟨k5, hk⟩ := ban hk
  obtain ⟨k6, hk⟩ := ban hk
  have clsI : ∀ {k : Nat} {C : Cl}, T.cls[k]? = some C → clsB K M (fun f => fAd K (es.getD f entD).d.at_) T.cls.length k C = true := fun {k C} h => by
    have := allI_get k4 h
    rwa [Nat.zero_add] at this
  have bind : ∀ {f : Nat} {e : Ent} {us : List Value} {kw : List (Str × Value)} {bs : List (Str × Value)} {s : Shared}, es[f]? = some e → e.d.dfl = [] → (∀ (kV doc pm : Value) (an : Option Addr) (cdv ct : Value), bindArgs (PySem.W.fnOf e.d.name e.d.qual e.d.params e.d.body e.d.scope .none kV doc pm an cdv ct) ⟨us, kw⟩ = pure bs) → BindsTo s ((mkG P w K mg base M T es).fd f) ⟨us, kw⟩ bs := fun {f e us kw bs s} he hd q => by
    have F := c.funD he
    obtain ⟨oc, od, dV, kV, doc, pm, an, cdv, ct, osl, e3, lk, _, hD, _⟩ := F.ex
    rw [e3]
    have hdv : dV = .none := by
      rcases hD with ⟨_, q⟩ | ⟨q, _⟩
      · exact q
      · exact absurd (by show e.d.dfl.map _ = []; rw [hd]; rfl) q
    rw [hdv]
    exact .of_eq (q kV doc pm an cdv ct)
  refine { cls := fun k hk => ?_, mgb := fun x hx => free_ok c.X c.N (List.all_eq_true.mp k1 x hx), atl := fun x hx => of_decide_eq_true (List.all_eq_true.mp t2 x hx), atn := of_decide_eq_true t3, fn := fun f x hx hne => ?_, fnl := fun f hf => l4 ▸ hf, pos := fun f hf => ?_, kw := fun f n ks pm hm => ?_, ckw := fun k n ks pm C f hm hC hi => ?_, na := fun k f hf => ?_, glb := fun g x hx => ?_, cmg := fun k x hx => ?_, ini := fun k C hC => ?_, mak := fun k C f hC hi => ?_, mth := fun k C a f hC hl => ?_ }
  · have hk' : k < T.cls.length := hk
    have q := clsI (List.getElem?_eq_getElem hk')
    unfold clsB at q
    obtain ⟨q1, q⟩ := ban q
    obtain ⟨q2, q⟩ := ban q
    obtain ⟨q3, q⟩ := ban q
    obtain ⟨q4, q⟩ := ban q
    obtain ⟨q5, q⟩ := ban q
    obtain ⟨q6, q⟩ := ban q
    obtain ⟨q7, q⟩ := ban q
    obtain ⟨q8, q⟩ := ban q
    obtain ⟨q9, q⟩ := ban q
    obtain ⟨q10, q⟩ := ban q
    exact {
      cls := cls_ok q2, ga := eqO_ok q4, gs := eqO_ok q5, tk := of_decide_eq_true q6, mo := of_decide_eq_true q7
      bt := fun t => of_decide_eq_true (List.all_eq_true.mp q8 t (by cases t <;> simp))
      oc := fun j hj => of_decide_eq_true (List.all_eq_true.mp q9 j (List.mem_range.mpr hj))
      ty := fun n hn => of_decide_eq_true (List.all_eq_true.mp q10 n hn) }
  · have q := allI_get k2 hx
    rw [Nat.zero_add, Bool.or_eq_true] at q
    rcases q with q | q
    · exact absurd (of_decide_eq_true q) hne
    · obtain ⟨q1, q2⟩ := ban q
      have q2 := of_decide_eq_true q2
      have hf : f < es.length := by
        rw [entsB_len t1, ← l4]
        exact (List.getElem?_eq_some_iff.mp hx).1
      have he : es[f]? = some es[f] := List.getElem?_eq_getElem hf
      have hok := List.all_eq_true.mp k3 es[f] (List.mem_of_getElem? he)
      obtain ⟨kp, _⟩ := ban hok
      refine ⟨?_, ?_⟩
      · show mg x = some (.ref (fAd K (es.getD f entD).d.at_))
        rw [q2]
        exact glo_ok c.X c.N q1
      · show PySem.W.keepIn K (.ref (fAd K (es.getD f entD).d.at_)) = true
        rw [getD_of he]
        exact kp
  · obtain ⟨e, he, h1, h2, h3, h4, h5, h6⟩ := c.ent (List.getElem?_eq_getElem (show f < T.fns.length from hf))
    intro s us _ hl
    have hl : (us ++ []).length = (es.getD f entD).ps.length := hl
    rw [getD_of he] at hl
    show BindsTo s _ ⟨us, []⟩ ((es.getD f entD).ps.zip (us ++ []))
    rw [getD_of he]
    rw [app_nil] at hl ⊢
    exact bind he h5 fun kV doc pm an cdv ct => bp e (List.mem_of_getElem? he) kV doc pm an cdv ct us hl
  · have hf : f < T.fns.length := of_decide_eq_true (List.all_eq_true.mp t9 _ hm)
    refine ⟨hf, ?_⟩
    obtain ⟨e, he, h1, h2, h3, h4, h5, h6⟩ := c.ent (List.getElem?_eq_getElem hf)
    intro s us ws _ hl1 hl2
    obtain ⟨xs, e1, _⟩ := bk f n ks pm hm e he .none .none .none none .none .none us ws hl1 hl2
    refine ⟨xs, e1, ?_⟩
    show BindsTo s _ ⟨us, ks.zip ws⟩ ((es.getD f entD).ps.zip xs)
    rw [getD_of he]
    refine bind he h5 fun kV doc pm' an cdv ct => ?_
    obtain ⟨xs', e1', q⟩ := bk f n ks pm hm e he kV doc pm' an cdv ct us ws hl1 hl2
    rw [e1] at e1'; cases e1'
    exact q
  · have hC' := List.all_eq_true.mp t8 C (List.mem_of_getElem? hC)
    unfold clB at hC'
    rw [hi] at hC'
    obtain ⟨hf, _⟩ := ban hC'
    have hf := of_decide_eq_true hf
    obtain ⟨e, he, h1, h2, h3, h4, h5, h6⟩ := c.ent (List.getElem?_eq_getElem hf)
    intro s z us ws _ hl1 hl2
    obtain ⟨xs, e1, _⟩ := bc k n ks pm C f hm hC hi e he .none .none .none none .none .none z us ws hl1 hl2
    refine ⟨xs, e1, ?_⟩
    show BindsTo s _ ⟨z :: us, ks.zip ws⟩ ((es.getD f entD).ps.zip (z :: xs))
    rw [getD_of he]
    refine bind he h5 fun kV doc pm' an cdv ct => ?_
    obtain ⟨xs', e1', q⟩ := bc k n ks pm C f hm hC hi e he kV doc pm' an cdv ct z us ws hl1 hl2
    rw [e1] at e1'; cases e1'
    exact q
  · have hk' := cls_lt hf
    have q := clsI (List.getElem?_eq_getElem (show k < T.cls.length from hk'))
    unfold clsB at q
    obtain ⟨q1, q⟩ := ban q
    obtain ⟨q2, q⟩ := ban q
    obtain ⟨q3, q⟩ := ban q
    obtain ⟨q4, q⟩ := ban q
    obtain ⟨q5, q⟩ := ban q
    obtain ⟨q6, q⟩ := ban q
    obtain ⟨q7, q⟩ := ban q
    obtain ⟨q8, q⟩ := ban q
    obtain ⟨q9, q⟩ := ban q
    obtain ⟨q10, q⟩ := ban q
    obtain ⟨q11, q⟩ := ban q
    have hfm : f ∈ T.cls[k].flds := by
      have hf2 : (fldsOf T k).contains f = true := hf
      unfold fldsOf at hf2
      rw [List.getElem?_eq_getElem (show k < T.cls.length from hk')] at hf2
      exact List.contains_iff_mem.mp hf2
    obtain ⟨r1, r2⟩ := ban (List.all_eq_true.mp q11 f hfm)
    show NoAttr K (ga K (M.cls.getD k "")) _
    rw [att_at (of_decide_eq_true r2)]
    exact noat_ok r1
  · have q := allI_get k6 hx
    rw [Nat.zero_add] at q
    have hg : g < T.glb.length := by
      rw [← of_decide_eq_true t7]
      exact (List.getElem?_eq_some_iff.mp hx).1
    refine ⟨T.glb[g], List.getElem?_eq_getElem hg, ?_⟩
    rw [getD_of (List.getElem?_eq_getElem hg)] at q
    split at q
    · rename_i u e
      obtain ⟨v, r, rp⟩ := glb_ok (G := mkG P w K mg base M T es) T.glb[g] u q
      exact ⟨u, v, PySem.W.mg_of c.X c.N e, r, rp⟩
    · cases q
  · have hk' : k < T.cls.length := by
      rw [← l5]
      exact (List.getElem?_eq_some_iff.mp hx).1
    refine ⟨hk', ?_⟩
    have q := clsI (List.getElem?_eq_getElem hk')
    unfold clsB at q
    obtain ⟨q1, q⟩ := ban q
    have hx' : M.cls[k]? = some x := hx
    show mg x = some (.ref (ga K (M.cls.getD k "")))
    have e := getD_of (d := ("" : Str)) hx'
    rw [e] at q1 ⊢
    exact glo_ok c.X c.N q1
  · have hC' := List.all_eq_true.mp t8 C (List.mem_of_getElem? hC)
    unfold clB at hC'
    obtain ⟨hf, _⟩ := ban hC'
    cases hi : C.init with
    | none => rw [hi] at hf; cases hf
    | some f => exact ⟨f, rfl⟩
  · have hC' := List.all_eq_true.mp t8 C (List.mem_of_getElem? hC)
    unfold clB at hC'
    rw [hi] at hC'
    obtain ⟨hf, _⟩ := ban hC'
    have hf := of_decide_eq_true hf
    refine ⟨hf, ?_⟩
    have q := clsI hC
    unfold clsB at q
    obtain ⟨q1, q⟩ := ban q
    obtain ⟨q2, q⟩ := ban q
    obtain ⟨q3, q⟩ := ban q
    obtain ⟨q4, q⟩ := ban q
    obtain ⟨q5, q⟩ := ban q
    obtain ⟨q6, q⟩ := ban q
    obtain ⟨q7, q⟩ := ban q
    obtain ⟨q8, q⟩ := ban q
    obtain ⟨q9, q⟩ := ban q
    obtain ⟨q10, q⟩ := ban q
    obtain ⟨q11, q⟩ := ban q
    obtain ⟨q12, q13⟩ := ban q
    rw [hi] at q13
    have := mkr_ok q3
    rw [of_decide_eq_true q13] at this
    exact this
  · have q := clsI hC
    unfold clsB at q
    obtain ⟨q1, q⟩ := ban q
    obtain ⟨q2, q⟩ := ban q
    obtain ⟨q3, q⟩ := ban q
    obtain ⟨q4, q⟩ := ban q
    obtain ⟨q5, q⟩ := ban q
    obtain ⟨q6, q⟩ := ban q
    obtain ⟨q7, q⟩ := ban q
    obtain ⟨q8, q⟩ := ban q
    obtain ⟨q9, q⟩ := ban q
    obtain ⟨q10, q⟩ := ban q
    obtain ⟨q11, q⟩ := ban q
    obtain ⟨q12, q13⟩ := ban q
    have hm := look_mem hl
    have hC' := List.all_eq_true.mp t8 C (List.mem_of_getElem? hC)
    unfold clB at hC'
    obtain ⟨_, hms⟩ := ban hC'
    refine ⟨of_decide_eq_true (List.all_eq_true.mp hms (a, f) hm), ?_⟩
    obtain ⟨r1, r⟩ := ban (List.all_eq_true.mp q12 (a, f) hm)
    obtain ⟨r2, r3⟩ := ban r
    show Meth K (ga K (M.cls.getD k "")) _ _
    rw [att_at (of_decide_eq_true r2)]
    have := meth_ok r1
    rw [of_decide_eq_true r3] at this
    exact this
theorem AllK.xd (c : AllK P w K mg base h M T es xB) : Xd (mkG P w K mg base M T es) := by
  have ht := c.t
  unfold textB at ht
  obtain ⟨t1, ht⟩ := ban ht
  obtain ⟨t2, ht⟩ := ban ht
  obtain ⟨t3, ht⟩ := ban ht
  obtain ⟨t4, ht⟩ := ban ht
  obtain ⟨t5, ht⟩ := ban ht
  obtain ⟨t6, ht⟩ := ban ht
  have l6 : M.exc.length = T.exc.length := of_decide_eq_true t6
  have hk := c.k
  unfold headB at hk
  obtain ⟨k1, hk⟩ := ban hk
  obtain ⟨k2, hk⟩ := ban hk
  obtain ⟨k3, hk⟩ := ban hk
  obtain ⟨k4, hk⟩ := ban hk
  obtain ⟨k5, hk⟩ := ban hk
  have excI : ∀ {k : Nat} {fs : List Nat}, T.exc[k]? = some fs → excB K M T k fs = true := fun {k fs} h => by
    have := allI_get k5 h
    rwa [Nat.zero_add] at this
  refine { mg := fun k x hx => ?_, exm := fun k j hk hj => ?_, xf := fun k hk => ?_ }
  · have hx' : M.exc[k]? = some x := hx
    have hk' : k < T.exc.length := by
      rw [← l6]
      exact (List.getElem?_eq_some_iff.mp hx').1
    have q := excI (List.getElem?_eq_getElem hk')
    unfold excB at q
    obtain ⟨q1, q⟩ := ban q
    refine ⟨?_, hk'⟩
    show mg x = some (.ref (ga K (M.exc.getD k "")))
    have e := getD_of (d := ("" : Str)) hx'
    rw [e] at q1 ⊢
    exact glo_ok c.X c.N q1
  · have q := excI (List.getElem?_eq_getElem (show k < T.exc.length from hk))
    unfold excB at q
    obtain ⟨q1, q⟩ := ban q
    obtain ⟨q2, q⟩ := ban q
    obtain ⟨q3, q⟩ := ban q
    exact exm_ok (List.all_eq_true.mp q3 j (List.mem_range.mpr hj))
  · have hk' : k < T.exc.length := hk
    have q := excI (List.getElem?_eq_getElem hk')
    unfold excB at q
    obtain ⟨q1, q⟩ := ban q
    obtain ⟨q2, q⟩ := ban q
    obtain ⟨q3, q4⟩ := ban q
    refine ⟨xfB_ok q2, fun f hf => ?_⟩
    have hf' : f ∈ T.exc[k] := by
      have : f ∈ T.exc.getD k [] := hf
      rwa [getD_of (List.getElem?_eq_getElem hk')] at this
    obtain ⟨r1, r2⟩ := ban (List.all_eq_true.mp q4 f hf')
    show PySem.W.findIn K (.ref (ga K (M.exc.getD k ""))) _ = _
    rw [att_at (of_decide_eq_true r2)]
    exact eqO_ok r1
theorem AllK.noL (c : AllK P w K mg base h M T es xB) : ∀ a o, K.lookup a = some o → o.cls ≠ .type "list" := by
  have hk := c.k
  unfold headB at hk
  obtain ⟨k1, hk⟩ := ban hk
  obtain ⟨k2, hk⟩ := ban hk
  obtain ⟨k3, hk⟩ := ban hk
  obtain ⟨k4, hk⟩ := ban hk
  obtain ⟨k5, hk⟩ := ban hk
  obtain ⟨k6, hk⟩ := ban hk
  obtain ⟨k7, hk⟩ := ban hk
  intro a o e hc
  have hm : (a, o) ∈ K := mem_lookup e
  have := List.all_eq_true.mp k7 (a, o) hm
  simp only [hc, decide_true, Bool.not_true] at this
  cases this
theorem AllK.xbs (c : AllK P w K mg base h M T es xB) : ∀ k, k < T.exc.length → xB K k = true := by
  have hk := c.k
  unfold headB at hk
  obtain ⟨k1, hk⟩ := ban hk
  obtain ⟨k2, hk⟩ := ban hk
  obtain ⟨k3, hk⟩ := ban hk
  obtain ⟨k4, hk⟩ := ban hk
  obtain ⟨k5, hk⟩ := ban hk
  obtain ⟨k6, hk⟩ := ban hk
  obtain ⟨k7, k8⟩ := ban hk
  exact fun k hk => List.all_eq_true.mp k8 k (List.mem_range.mpr hk)
end
/-! #### the law -/
/-- the script stands -/
theorem rep_script {G : Pg} {H : Hp} {a : Addr} {ns : List Int} (hS : SqL G.K H a (ns.map V.int)) (no : ∀ a o, G.K.lookup a = some o → o.cls ≠ .type "list") : Rep G [] H (.lst (ns.map .int)) (.ref a) := by
  rcases hS with h | ⟨o, its, n, e, hc, _⟩
  · exact rep_lst ⟨by simp, h⟩ (repInts ns)
  · exact absurd hc (no a o e)
theorem rs_nil {G : Pg} {H : Hp} : RS G [] H [] := ⟨rfl, List.nodup_nil, fun n c e => by simp at e⟩
/-- what is asked of the evaluator -/
def Asked (T : Tb) (n f : Nat) : Prop := ∀ ns : List Int, ns.length ≤ 63 → ∃ S, run T n f [.lst (ns.map .int)] [] = .ok (.bl true) S
theorem law_sp {G : Pg} {n f : Nat} (hps : (G.ps f).length = 1) (no : ∀ a o, G.K.lookup a = some o → o.cls ≠ .type "list") (hA : Asked G.T n f) (H : Hp) (a : Addr) (ns : List Int) (hl : ns.length ≤ 63) (hS : SqL G.K H a (ns.map V.int)) :
    spF G n f [.ref a] H (fun v _ => v = .bl true) fun _ _ _ => False := by
  refine ⟨hps.symm, [], [], [.lst (ns.map .int)], rs_nil, RepL.cons (rep_script hS no) RepL.nil, ?_⟩
  obtain ⟨S, e⟩ := hA ns hl
  rw [e]
  exact fun m' H' v _ _ r => r.bl_inv
end Ev
end
section
set_option maxRecDepth 100000
set_option maxHeartbeats 8000000
/-! Ev, part 22: an own exception is made: its __init__ hands the value to ValueError and keeps it. -/
namespace Ev
open PySem PySem.Spec PyProof.Rows PySem.Calls
open PySem.W (kxs_mw KxsFacts kxs_ValueError kxs_getMethod kxs_callWith KxsAt ks_superIn fnX envX excInitIn)
/-- the two statements of such an __init__ -/
def initB (v f : Str) : List Stmt → Bool
  | [.Expr (.Call (.Attribute (.Call (.Name a _) [] [] _) b q) [.Name c _] [] r) _, .Assign [.Attribute (.Name d _) e _] (.Name g _) _] =>
    decide (a = "super") && (decide (b = "__init__") && ((q.endLine == r.line) && (decide (c = v) && (decide (d = "self") && (decide (e = f) && decide (g = v))))))
  | _ => false
/-- the scope of such an __init__ -/
def initS (v : Str) (sc : Scope) : Bool :=
  decide (sc.kind = .function) && (!sc.isCoroutine && (!sc.isGenerator && (sc.names.all (fun y => !decide (y.2 = .cell)) && (decide (sc.names.lookup ("self" : Str) = some .local) && (decide (sc.names.lookup v = some .local) && (decide (sc.names.lookup ("super" : Str) = some .globalImplicit) &&
    (decide (sc.names.lookup ("__class__" : Str) = some .free) && (!(v == ("__debug__" : Str)) && !(v == ("self" : Str))))))))))
/-- its parameters: self, v -/
def initP (v : Str) (p : Arguments) : Bool := match p with
  | ⟨[], [a, b], none, [], [], none, []⟩ => decide (a.arg = "self") && decide (b.arg = v)
  | _ => false
theorem bind_two {name qual v : Str} {p : Arguments} {body : List Stmt} {scope : Scope} {cl : List (Str × Addr)} {kV doc pm cdv ct : Value} {an : Option Addr} {a u : Value} (h : initP v p = true) (hv : (v == ("self" : Str)) = false) :
    bindArgs (fnX name qual p body scope cl .none kV doc pm an cdv ct) ⟨[a, u], []⟩ = pure [(("self" : Str), a), (v, u)] := by
  unfold initP at h
  split at h
  · rename_i x y
    simp only [Bool.and_eq_true, decide_eq_true_eq] at h
    obtain ⟨h1, h2⟩ := h
    obtain ⟨xa, xn, xp, xt⟩ := x
    obtain ⟨ya, yn, yp, yt⟩ := y
    simp only at h1 h2
    subst h1 h2
    unfold bindArgs
    simp [seqItems?, List.lookup, hv]
    rfl
  · cases h
/-- an exception, its dict -/
abbrev xob (C t0 : Addr) (dd : Option Addr) : Obj := { cls := .ref C, dict := dd, data := .fields #[.ref t0, .none, .none, .none, .bool false, .none] }
section
variable {prog : Program} {w : World} {A : Around} {E : Value → Shared → Prop} {h : Heap} {g : Array GenState} {d : Drawn} {t : Nat} {os : OsState}
variable {nm q : Str} {C N : Addr} {bs bm : List Value} {hdct : Bool} {sn : List Str} {sub : List Value} {ab : Bool} {col : Option Bool} {dd : Option Addr} {k0 k1 k2 k3 k5 : Option Value}
/-- ValueError.__init__, bound, called -/
theorem call_mw {u e t0 : Addr} {rest : List Value} {Q : Value → Shared → Prop} (hC : h.get? C = some (excClassObj nm q C N bs bm hdct sn sub ab col dd k0 k1 k2 k3 k5 "ValueError.__new__")) (he : h.get? e = some (xob C t0 none)) (hu : h.get? u = some (kxs_mw "ValueError.__init__" e)) (hrest : rest.length ≤ sizeLine)
    (hq : ∀ h' t1, (∀ b o, b ≠ e → h.get? b = some o → h'.get? b = some o) → h'.get? e = some (xob C t1 none) → Q .none ⟨h', g, d, t, os⟩) :
    wpAny (model prog w) A (call (.ref u) rest) Q E ⟨h, g, d, t, os⟩ := by
  have FB := F.excBase_ValueError
  refine wpAny_call (codeAny_of_tree ?_)
  show wpAny _ A.in1 (callAny (.ref u) ⟨rest, []⟩) _ _ _
  simp only [callAny]
  refine wpAny_bind (wpAny_load hu ?_)
  simp only [kxs_mw, show (Value.type "method-wrapper" == Value.type "method" || Value.type "method-wrapper" == Value.type "builtin_function_or_method" || Value.type "method-wrapper" == Value.type "method-wrapper") = true by decide, if_true]
  refine PySem.W.KFB.if_so (by decide) ?_
  refine wpAny_bind (PySem.W.check_bound_init FB.toExcCallFacts hC he rfl ?_)
  refine wpAny_bind (wpAny_pure (wpAny_pure ?_))
  refine ⟨plainId_quiet FB.init.plain _, codeAny_builtin FB.initEntry ?_⟩
  exact PySem.W.exc_init_tree (cls := .ref C) (t0 := t0) (dv := none) (c2 := .none) (c3 := .none) (b4 := .bool false) he hrest fun h' k e' _ => hq h' _ k e'
end
/-- what of such a class and its __init__ is known -/
structure ExI (P : Program) (K : PySem.W.Frag) (C fI cc cda : Addr) (v f qual : Str) (params : Arguments) (body : List Stmt) (scope : Scope) (cdv : Value) (fd : FuncData) : Prop where
  fnK : ∃ oc od osl name kV doc pm an ct, fd = fnX name qual params body scope [("__class__", cc)] .none kV doc pm an cdv ct ∧ K.lookup fI = some ⟨oc, od, .func fd, osl⟩
  code : PySem.W.codeIn K cdv qual = true
  cda : cdv = .ref cda ∧ ∃ ccl cdd vs ccs file tf, K.lookup cda = some ⟨ccl, cdd, .fields vs, ccs⟩ ∧ vs[2]? = some (.str file tf) ∧ ((P.main.file : Str) == file) = true
  cell : ∃ cl cld csl, K.lookup cc = some ⟨cl, cld, .cell (some (.ref C)), csl⟩
  ex : excInitIn K C He.veBase "ValueError.__new__" = true
  mro : ∃ cd, PySem.W.clsIn K C = some cd ∧ PySem.HandSPX.refsVE cd.mro = true ∧ cd.hasDict = true
  self : PySem.W.mroIn K C (.ref C) = some true
  sup : ks_superIn K C C "__init__" = some (some (.builtin "ValueError.__init__"))
  ve : PySem.W.subIn K (.ref C) (.type "ValueError") = some true
  sg : PySem.W.nsIn K mainGlobals "super" = some none
  st : PySem.W.nsIn K cStatics "thirdparty.any" = some none
  sa : PySem.W.findIn K (.ref C) "__setattr__" = some (some (.builtin "object.__setattr__"))
  no : PySem.W.findIn K (.ref C) f = some none
  pr : initP v params = true
  bd : initB v f body = true
  sc : initS v scope = true
  top : (P.main.scope.names.lookup ("super" : Str)).isSome = false
section
variable {P : Program} {w : World} {A : Around} {K : PySem.W.Frag} {C fI cc cda : Addr} {v f qual : Str} {params : Arguments} {body : List Stmt} {scope : Scope} {cdv : Value} {fd : FuncData} {R : Result → Shared → Prop} {s : Shared} {a t0 : Addr} {u : Value} {mg mb : Str → Option Value}
theorem init_run (X : ExI P K C fI cc cda v f qual params body scope cdv fd) (KX : K.In s.heap) (hroom : A.depth < recursionLimit) (hlim : s.heap.NoLimit) (hg : s.heap.Ns mainGlobals mg) (hb : s.heap.Ns builtinsNs mb) (hbb : ∀ x : Str, x ≠ "__name__" → mb x = bootBuiltins x)
    (ha : s.heap.get? a = some (xob C t0 none)) (haK : K.lookup a = none)
    (hq : ∀ h' tk' dx t1, (∀ b o, b ≠ a → s.heap.get? b = some o → h'.get? b = some o) → s.heap.get? dx = none → dx ≠ a → h'.get? a = some (xob C t1 (some dx)) → h'.Ns1 dx (fun y => if y = f then some u else none) → R (.ok (.ret .none)) { s with heap := h', toks := tk' }) :
    codeAny (model P w) A (.call (.ref fI) ⟨[.ref a, u], []⟩) R s := by
  obtain ⟨oc, od, osl, name, kV, doc, pm, an, ct, efd, lk⟩ := X.fnK
  obtain ⟨ecd, ccl, cdd, vs, ccs, file, tf, lcd, hvs, hfile⟩ := X.cda
  obtain ⟨cl, cld, csl, lcell⟩ := X.cell
  obtain ⟨cd, hcd, hmro, hhd⟩ := X.mro
  have sc := X.sc
  unfold initS at sc
  simp only [Bool.and_eq_true, Bool.not_eq_true', decide_eq_true_eq] at sc
  obtain ⟨sk, sco, sge, sce, sse, sv, ssu, scl, sdb, sne⟩ := sc
  have hkind : ∀ {x : Str} {L : Addr}, (callEnv fd L fI).kindOf x = scope.names.lookup x := fun {x L} => by subst efd; rfl
  have hcell : ∀ x ∈ fd.scope.names, x.2 ≠ .cell := by
    subst efd
    intro x hx e
    have := List.all_eq_true.mp sce x hx
    simp [e] at this
  refine ks_codeAny_call_defAt (fd := fd) (body := body) (binds := [(("self" : Str), .ref a), (v, u)]) hroom (KX _ _ lk) rfl hlim (by subst efd; exact PySem.W.codeRec_of KX X.code) (by subst efd; rfl) (.of_eq (by subst efd; exact bind_two X.pr sne)) hcell ?_ (fun h₁ hns hk => ?_) (by subst efd; exact sco) (by subst efd; exact sge) (by subst efd; exact sk)
  · intro x hx
    subst efd
    simp only [List.mem_cons, List.not_mem_nil, or_false] at hx
    rcases hx with rfl | rfl
    · exact sse
    · exact sv
  -- the body's two statements
  have hbd := X.bd
  unfold initB at hbd
  split at hbd
  case h_2 => cases hbd
  rename_i nsup p0 p1 nini p2 nv p3 p4 p5 nself p6 nf p7 nv2 p8 p9
  simp only [Bool.and_eq_true, decide_eq_true_eq] at hbd
  obtain ⟨e1, e2, hline, e3, e4, e5, e6⟩ := hbd
  subst e1 e2 e3 e4 e5 e6
  obtain ⟨ar, hpar, har⟩ : ∃ ar, (params.posonlyargs ++ params.args).head? = some ar ∧ ar.arg = ("self" : Str) := by
    have hp := X.pr
    unfold initP at hp
    split at hp
    · rename_i x y
      simp only [Bool.and_eq_true, decide_eq_true_eq] at hp
      exact ⟨x, rfl, hp.1⟩
    · cases hp
  obtain ⟨hh, gg, dr, tk, os⟩ := s
  have K1 : K.In h₁ := fun b o e => hk b o (KX b o e)
  have ha1 : h₁.get? a = some (xob C t0 none) := hk _ _ ha
  have hv1 : ([(("self" : Str), Value.ref a), (nv2, u)] : List (Str × Value)).reverse.lookup ("self" : Str) = some (.ref a) := by
    simp [List.lookup, show (("self" : Str) == nv2) = false from by rw [beq_eq_false_iff_ne] at sne ⊢; exact fun z => sne z.symm]
  have hv2 : ([(("self" : Str), Value.ref a), (nv2, u)] : List (Str × Value)).reverse.lookup nv2 = some u := by
    simp [List.lookup]
  have hsz : ∀ b o, hh.get? b = some o → b ≠ hh.objs.size := fun b o e => Nat.ne_of_lt (Heap.lt_size e)
  refine ks_wpAt_execs_cons (ks_wpAt_Expr_any (ks_wpAt_MethodCall (pl := do return (← importBound (.Call (.Name "super" p0) [] [] p1) (callEnv fd hh.objs.size fI)).getD true) (ks_wpAt_super_base (ar := ar) (file := file) (tf := tf) (by rw [hkind]; exact ssu) (by rw [hkind]; exact scl) rfl (by subst efd; rfl) (hk _ _ (KX _ _ lk)) rfl (by subst efd; exact hpar) (by subst efd; exact ecd) (hk _ _ (KX _ _ lcd)) rfl hvs hfile X.top ?sup) ?tree) ?int rfl)
  case int =>
    subst efd
    simp only [interactive, callEnv, newEnv, sk]
    rfl
  case tree =>
    rw [arm_eval_Call]
    have e : ∀ ov, methodCall (.Call (.Name "super" p0) [] [] p1) "__init__" p2 p4 (callEnv fd hh.objs.size fI) ov ([Expr.Name nv2 p3].length + ([] : List Keyword).length) (backTo p4 (starEach [Expr.Name nv2 p3] (callEnv fd hh.objs.size fI))) (backToKw p4 (keywordEach [] (callEnv fd hh.objs.size fI))) = (do
        let (f, first) ← holding [ov] (getMethod ov "__init__" (do return (← importBound (.Call (.Name "super" p0) [] [] p1) (callEnv fd hh.objs.size fI)).getD true))
        callWith p4 f first (backTo p4 (starEach [Expr.Name nv2 p3] (callEnv fd hh.objs.size fI))) []) := fun ov => by
      unfold methodCall methodCallPos calleeOf
      have hform : methodCallForm ([Expr.Name nv2 p3].length + ([] : List Keyword).length) (backTo p4 (starEach [Expr.Name nv2 p3] (callEnv fd hh.objs.size fI))) (backToKw p4 (keywordEach [] (callEnv fd hh.objs.size fI))) = true := rfl
      rw [hform]
      simp only [hline, Bool.not_true, Bool.false_or, if_true, pure_bind]
      rfl
    exact bind_congr fun ov => bind_congr fun _ => e ov
  case sup =>
    have hkf : (callEnv fd hh.objs.size fI).scope.kind = .function := by subst efd; exact sk
    have hgl : (callEnv fd hh.objs.size fI).globals = mainGlobals := by subst efd; rfl
    have hbl : (callEnv fd hh.objs.size fI).builtins = builtinsNs := by subst efd; rfl
    have hlo : (callEnv fd hh.objs.size fI).locals = hh.objs.size := by subst efd; rfl
    have hce : (callEnv fd hh.objs.size fI).cells = [(("__class__" : Str), cc)] := by subst efd; rfl
    have nsK : ∀ {b : Addr} {m : Str → Option Value}, hh.Ns b m → h₁.Ns b m := fun {b m} ⟨o, es, ep, e, d, r⟩ => ⟨o, es, ep, hk _ _ e, d, r⟩
    refine PySem.W.ks_loadName_global hkf (by rw [hkind]; exact ssu) (loadGlobal_builtin (by rw [hgl]; exact nsK hg) (PySem.W.mg_none_of KX hg X.sg) (by rw [hbl]; exact nsK hb) ((hbb _ (by decide +kernel)).trans (by rfl)) ⟨rfl, ?_⟩)
    refine wpAny_loadName_free hkf (by rw [hkind]; exact scl) (c := cc) (by rw [hce]; rfl) ⟨_, K1 _ _ lcell, rfl⟩ ?_
    rw [har]
    refine wpAny_loadName_local hkf (by rw [hkind]; exact sse) (by rw [hlo]; exact hns) hv1 ?_
    obtain ⟨nmC, NC, qnC, bsC, bmC, hdctC, snC, subC, abC, colC, ddC, k0, k1, k2, k3, k5, hCo, hT⟩ := PySem.W.excInit_of K1 X.ex
    refine ks_wpAny_isType_cls hCo rfl ⟨rfl, ?_⟩
    refine ks_wpAny_call_super hCo rfl ha1 rfl (fun c e => by cases e) (PySem.W.looks_mroIn K1 X.self) (fun h2 e2 k2 => ?_)
    have K2 : K.In h2 := fun b o e => k2 b o (K1 b o e)
    have I2 : PySem.W.InstAt h2 a (xob C t0 none) C none := ⟨k2 _ _ ha1, rfl, rfl, trivial⟩
    have hsup := X.sup
    unfold ks_superIn at hsup
    rw [hcd, Option.bind_some] at hsup
    refine kxs_getMethod kxs_ValueError e2 (PySem.W.looks_opaque K2 X.st) (l₀ := cd.mro) (fun A Q E s k q => wpAny_bind ((PySem.W.looks_clsIn K2 hcd) A _ E s k (wpAny_pure q))) rfl K2 hsup (I2.type.andThen (PySem.W.looks_subIn K2 X.ve)) (PySem.W.ks_ne K2 I2 hcd) rfl ?_
    have k3 : ∀ b o, h₁.get? b = some o → (h2.push (kxs_mw "ValueError.__init__" a)).get? b = some o := fun b o e => Heap.get?_push_of_some _ (k2 b o e)
    have hns3 : (h2.push (kxs_mw "ValueError.__init__" a)).Ns hh.objs.size fun x => ([(("self" : Str), Value.ref a), (nv2, u)] : List (Str × Value)).reverse.lookup x := by
      obtain ⟨o, es, ep, e, d, r⟩ := hns
      exact ⟨o, es, ep, k3 _ _ e, d, r⟩
    have hu3 : (h2.push (kxs_mw "ValueError.__init__" a)).get? h2.objs.size = some (kxs_mw "ValueError.__init__" a) := Heap.get?_push_size _ rfl
    have hlc : ∀ {x : Str}, scope.names.lookup x = some .local → (callEnv fd hh.objs.size fI).kindOf x = some .local := fun {x} e => by rw [hkind]; exact e
    refine kxs_callWith (i := "ValueError.__init__") (x := a) rfl (evalArgs_plain ?_)
    refine Calls.spliced_cons (wpAny_Name (wpAny_loadName_local hkf (hlc sv) (by rw [hlo]; exact hns3) hv2 ?_) sdb)
    refine Calls.spliced_nil ⟨hu3, ?_⟩
    refine call_mw (k3 _ _ hCo) (k3 _ _ ha1) hu3 (by show 1 ≤ sizeLine; decide) fun h4 t1 k4 ha4 => ?_
    have k14 : ∀ b o, b ≠ a → h₁.get? b = some o → h4.get? b = some o := fun b o n e => k4 b o n (k3 b o e)
    have aK : ∀ b o, K.lookup b = some o → b ≠ a := fun b o e z => by rw [z, haK] at e; cases e
    have K4 : K.In h4 := fun b o e => k14 b o (aK b o e) (K1 b o e)
    have hns4 : h4.Ns hh.objs.size fun x => ([(("self" : Str), Value.ref a), (nv2, u)] : List (Str × Value)).reverse.lookup x := by
      obtain ⟨o, es, ep, e, d, r⟩ := hns3
      exact ⟨o, es, ep, k4 _ _ (fun z => hsz _ _ ha z.symm) e, d, r⟩
    refine ks_wpAt_execs_cons (ks_wpAt_Assign_Attr (wpAt_of_wpAny (wpAny_Name (wpAny_loadName_local hkf (hlc sv) (by rw [hlo]; exact hns4) hv2 ?_) sdb)) rfl)
    refine wpAny_Name (wpAny_loadName_local hkf (hlc sse) (by rw [hlo]; exact hns4) hv1 ?_) (by decide)
    refine PySem.W.set_plain K4 (ox := xob C t1 none) (od := none) ⟨ha4, rfl, rfl, trivial⟩ X.sa (PySem.HandSPX.exc_osa K4 ha4 hcd hmro hhd X.no fun h5 tk5 dx k5 hdx dne hx5 hn5 => ?_)
    have k05 : ∀ b o, b ≠ a → hh.get? b = some o → h5.get? b = some o := fun b o n e => k5 b o n (k14 b o n (hk b o e))
    have hdx0 : hh.get? dx = none := by
      cases e : hh.get? dx with
      | none => rfl
      | some o => exact absurd (Heap.lt_size (k14 _ _ dne (hk _ _ e))) (Nat.not_lt.mpr hdx)
    exact wpAt_of_wpAny (wpAny_execs_nil (hq h5 tk5 dx t1 k05 hdx0 dne hx5 hn5))
end
section
open L2
variable {X : Cx} {C fI cc cda : Addr} {v f qual : Str} {params : Arguments} {body : List Stmt} {scope : Scope} {cdv : Value} {fd : FuncData}
/-- X(e) -/
theorem pmk_x {nm : Str} {es : List Expr} {p pos : Pos} {t : TA} (x : ExI X.prog X.K C fI cc cda v f qual params body scope cdv fd) (iC : PySem.W.findIn X.K (.ref C) "__init__" = some (some (.ref fI))) (tI : PySem.W.typeIn X.K (.ref fI) = some (.type "function"))
    (exC : PySem.W.subIn X.K (.ref C) (.type "BaseException") = some true) (tyC : PySem.W.typeIn X.K (.ref C) = some (.type "type")) (kC : PySem.W.keepIn X.K (.ref C) = true) (hr : X.A.depth + 1 < recursionLimit) (hg : Gl X nm) (hm : X.mg nm = some (.ref C)) (hdb : (nm == ("__debug__" : Str)) = false)
    (hst : es.all noStar = true) (ha : PA X es t) (h0 : es = [] → ∀ σ H Q, t σ H Q → Q [] H) {R : List V → Hp → XK → Prop} (hR : ∀ vs H1 Q, R vs H1 Q → ∃ y, vs = [y] ∧ ∀ dx, H1 dx = none → Q (.ref C) (some dx) (upd H1 dx (.xd [(f, y)]))) :
    PMk X (.Call (.Name nm p) es [] pos) (fun σ H Q => t σ H fun vs H1 => R vs H1 Q) := by
  intro pins s σ H Q I h
  refine wpAny_Call_Name_kw (ld_glob I hg hm ?_ hdb)
  cases es with
  | nil =>
    obtain ⟨y, hy, _⟩ := hR _ _ _ (h0 rfl σ H _ h)
    cases hy
  | cons e es =>
    have hs := hst
    simp only [List.all_cons, Bool.and_eq_true] at hs
    refine PySem.W.callWith_K (h₀ := X.base) I.ok.mod.kin kC (thn (ha.run pos pins s σ H _ I h) fun us s1 ⟨vs, H1, I1, r1, q0⟩ => ⟨I1.kIn, ?_⟩) (star_of hs.1) (any_star hs.2)
    obtain ⟨y, hy, q1⟩ := hR _ _ _ q0
    subst hy
    obtain ⟨u, rfl, ru⟩ : ∃ u, us = [u] ∧ RelV y u := by
      cases r1 with
      | cons r rr =>
        cases rr
        exact ⟨_, rfl, r⟩
    obtain ⟨hp, g, dr, tk, os⟩ := s1
    obtain ⟨nmC, NC, qnC, bsC, bmC, hdctC, snC, subC, abC, colC, ddC, k0, k1, k2, k3, k5, hCo, hT⟩ := PySem.W.excInit_of I1.kIn x.ex
    have kk : ∀ b o, hp.get? b = some o → ((hp.push (PySem.W.kdv_tup [u])).push (PySem.HandSPX.excO C hp.objs.size)).get? b = some o := fun b o e => Heap.get?_push_of_some _ (Heap.get?_push_of_some _ e)
    have hget : ((hp.push (PySem.W.kdv_tup [u])).push (PySem.HandSPX.excO C hp.objs.size)).get? (hp.objs.size + 1) = some (PySem.HandSPX.excO C hp.objs.size) := by heap_get
    have fresh : ∀ {b : Addr} {o : Obj}, hp.get? b = some o → b ≠ hp.objs.size + 1 := fun {b o} e => Nat.ne_of_lt (Nat.lt_succ_of_lt (Heap.lt_size e))
    obtain ⟨mb, hb1, hb2⟩ := I1.ok.mod.blt
    show wpAny _ _ (call (.ref C) [u]) _ _ _
    refine wpAny_call (PySem.HandSPX.call_own F.excBase_ValueError hT hCo (PySem.W.looks_findIn I1.kIn iC) (fun self => PySem.W.bind_fn I1.kIn self tI) (by show 1 ≤ sizeLine; decide)
      (init_run (mg := X.mg) (mb := mb) (t0 := hp.objs.size) x (fun b o e => kk b o (I1.kIn b o e)) (by rw [make_depth]; exact hr) (I1.ok.mod.nolimit.keeps fun b o e => kk b o (I1.bk b o e)) (I1.ok.mod.glob.keeps fun b o e => kk b o (I1.bk b o e)) (hb1.keeps fun b o e => kk b o (I1.bk b o e)) hb2 hget ?_ ?_))
    · cases e : X.K.lookup (hp.objs.size + 1) with
      | none => rfl
      | some o => exact absurd rfl (fresh (I1.kIn _ _ e))
    · intro h' tk' dx t1 k hdx dne hx hns
      have hdx0 : hp.get? dx = none := by
        cases e : hp.get? dx with
        | none => rfl
        | some o => rw [kk _ _ e] at hdx; cases hdx
      have ha0 : hp.get? (hp.objs.size + 1) = none := by
        cases e : hp.get? (hp.objs.size + 1) with
        | none => rfl
        | some o => exact absurd rfl (fresh e)
      obtain ⟨G, g1, g2⟩ := restrict h' fun b => decide (b ≠ hp.objs.size + 1)
      have gk : ∀ b, b ≠ hp.objs.size + 1 → G.get? b = h'.get? b := fun b hb => g1 b (decide_eq_true hb)
      have ga : G.get? (hp.objs.size + 1) = none := g2 _ (by simp)
      have keep : ∀ b o, hp.get? b = some o → G.get? b = some o := fun b o e => by
        rw [gk b (fresh e)]
        exact k b o (fresh e) (kk b o e)
      have hH : H1 dx = none := I1.hok.gone hdx0
      have hnsG : G.Ns1 dx fun z => if z = f then some u else none := hns.at fun o e => by rw [gk _ dne]; exact e
      have J : L2.Inv X pins σ (upd H1 dx (.xd [(f, y)])) ⟨G, g, dr, tk', os⟩ := I1.laidN (t' := tk') keep hdx0 hH ⟨_, hnsG, relO_put (fs := []) ru fun _ => True.intro⟩
      refine ⟨rfl, hp.objs.size + 1, xob C t1 (some dx), _, ⟨G, g, dr, tk', os⟩, _, .ref C, some dx, rfl, J, fun b o e => ?_, ga, hx, ⟨rfl, rfl⟩, rfl, rfl, ?_, rfl, I1.bare, raises_own exC tyC, q1 dx hH⟩
      · have hb : b ≠ hp.objs.size + 1 := fun z => by
          have e : G.get? b = some o := e
          rw [z, ga] at e; cases e
        have e : G.get? b = some o := e
        rw [gk b hb] at e
        exact e
      · rw [upd_ne dne.symm]
        exact I1.hok.gone ha0
/-- no exception of another form -/
theorem pmk_no {nm : Str} {es : List Expr} {p pos : Pos} {t : TA} (kC : PySem.W.keepIn X.K (.ref C) = true) (hg : Gl X nm) (hm : X.mg nm = some (.ref C)) (hdb : (nm == ("__debug__" : Str)) = false)
    (hst : es.all noStar = true) (ha : PA X es t) (h0 : es = [] → ∀ σ H Q, t σ H Q → Q [] H) {R : List V → Hp → XK → Prop} (hR : ∀ vs H1 Q, ¬ R vs H1 Q) :
    PMk X (.Call (.Name nm p) es [] pos) (fun σ H Q => t σ H fun vs H1 => R vs H1 Q) := by
  intro pins s σ H Q I h
  cases es with
  | nil => exact (hR _ _ _ (h0 rfl σ H _ h)).elim
  | cons e es =>
    have hs := hst
    simp only [List.all_cons, Bool.and_eq_true] at hs
    refine wpAny_Call_Name_kw (ld_glob I hg hm ?_ hdb)
    exact PySem.W.callWith_K (h₀ := X.base) I.ok.mod.kin kC (thn (ha.run pos pins s σ H _ I h) fun us s1 ⟨vs, H1, I1, r1, q0⟩ => (hR _ _ _ q0).elim) (star_of hs.1) (any_star hs.2)
end
/-! #### the check -/
def fnB (P : Program) (K : PySem.W.Frag) (C : Addr) (f : Str) (fd : FuncData) : Bool :=
  decide (fd.globals = mainGlobals) && (decide (fd.builtins = builtinsNs) && (decide (fd.defaults = .none) && (PySem.W.codeIn K fd.code fd.qualname && (match fd.closure, fd.code, fd.body, fd.params.args with
    | [(z, cc)], .ref cda, .stmts body, [_, b] => decide (z = "__class__") && ((match K.lookup cc with
        | some ⟨_, _, .cell (some (.ref D)), _⟩ => decide (D = C)
        | _ => false) && ((match K.lookup cda with
        | some ⟨_, _, .fields vs, _⟩ => (match (vs[2]? : Option Value) with
          | some (.str file _) => P.main.file == file
          | _ => false)
        | _ => false) && (initP b.arg fd.params && (initB b.arg f body && initS b.arg fd.scope))))
    | _, _, _, _ => false))))
def exiB (P : Program) (K : PySem.W.Frag) (C : Addr) (f : Str) : Bool :=
  He.eqO (PySem.W.findIn K (.ref C) "__init__") (some (some (.ref (He.ma K C "__init__")))) && (decide (PySem.W.typeIn K (.ref (He.ma K C "__init__")) = some (.type "function")) && (decide (PySem.W.subIn K (.ref C) (.type "BaseException") = some true) && (decide (PySem.W.typeIn K (.ref C) = some (.type "type")) &&
    (excInitIn K C He.veBase "ValueError.__new__" && ((match PySem.W.clsIn K C with
      | some cd => PySem.HandSPX.refsVE cd.mro && cd.hasDict
      | none => false) && (decide (PySem.W.mroIn K C (.ref C) = some true) && (He.eqO (ks_superIn K C C "__init__") (some (some (.builtin "ValueError.__init__"))) && (decide (PySem.W.subIn K (.ref C) (.type "ValueError") = some true) &&
    (He.eqO (PySem.W.nsIn K mainGlobals "super") (some none) && (He.eqO (PySem.W.nsIn K cStatics "thirdparty.any") (some none) && (He.eqO (PySem.W.findIn K (.ref C) "__setattr__") (some (some (.builtin "object.__setattr__"))) && (He.eqO (PySem.W.findIn K (.ref C) f) (some none) &&
    (!(P.main.scope.names.lookup ("super" : Str)).isSome && (match K.lookup (He.ma K C "__init__") with
      | some ⟨_, _, .func fd, _⟩ => fnB P K C f fd
      | _ => false))))))))))))))
def xB (P : Program) (M : Nm) (T : Tb) (K : PySem.W.Frag) (c : Nat) : Bool := PySem.W.keepIn K (.ref (He.ga K (M.exc.getD c ""))) && (match T.exc.getD c [] with
  | [i] => decide (i < M.atts.length) && exiB P K (He.ga K (M.exc.getD c "")) (M.atts.getD i "")
  | _ => true)
theorem exi_of {P : Program} {K : PySem.W.Frag} {C : Addr} {f : Str} (h : exiB P K C f = true) : ∃ cc cda v qual params body scope cdv fd, ExI P K C (He.ma K C "__init__") cc cda v f qual params body scope cdv fd := by
  unfold exiB at h
  obtain ⟨h1, h⟩ := ban h
  obtain ⟨h2, h⟩ := ban h
  obtain ⟨h3, h⟩ := ban h
  obtain ⟨h4, h⟩ := ban h
  obtain ⟨h5, h⟩ := ban h
  obtain ⟨h6, h⟩ := ban h
  obtain ⟨h7, h⟩ := ban h
  obtain ⟨h8, h⟩ := ban h
  obtain ⟨h9, h⟩ := ban h
  obtain ⟨h10, h⟩ := ban h
  obtain ⟨h11, h⟩ := ban h
  obtain ⟨h12, h⟩ := ban h
  obtain ⟨h13, h⟩ := ban h
  obtain ⟨h14, h⟩ := ban h
  split at h
  · rename_i oc od fd osl lk
    obtain ⟨name, qual, params, fbody, scope, globals, closure, defaults, kV, doc, pm, an, cdv, ct, blt⟩ := fd
    unfold fnB at h
    obtain ⟨g1, h⟩ := ban h
    obtain ⟨g2, h⟩ := ban h
    obtain ⟨g3, h⟩ := ban h
    obtain ⟨g4, h⟩ := ban h
    have z1 : globals = mainGlobals := of_decide_eq_true g1
    have z2 : blt = builtinsNs := of_decide_eq_true g2
    have z3 : defaults = .none := of_decide_eq_true g3
    clear g1 g2 g3
    subst z1 z2 z3
    dsimp only at g4 h
    split at h
    · rename_i z cc cda body x b e4
      obtain ⟨j1, h⟩ := ban h
      obtain ⟨j2, h⟩ := ban h
      obtain ⟨j3, h⟩ := ban h
      obtain ⟨j4, h⟩ := ban h
      obtain ⟨j5, j6⟩ := ban h
      have y1 := of_decide_eq_true j1
      clear j1
      subst y1
      split at j2
      · rename_i cl cld D csl lcell
        have y2 := of_decide_eq_true j2
        clear j2
        subst y2
        split at j3
        · rename_i ccl cdd vs ccs lcd
          split at j3
          · rename_i file tf hvs
            refine ⟨_, _, _, qual, params, _, scope, _, _, { fnK := ⟨oc, od, osl, name, kV, doc, pm, an, ct, rfl, lk⟩, code := g4, cda := ⟨rfl, ccl, cdd, vs, ccs, file, tf, lcd, hvs, j3⟩, cell := ⟨cl, cld, csl, lcell⟩, ex := h5, mro := ?_, self := of_decide_eq_true h7, sup := He.eqO_ok h8, ve := of_decide_eq_true h9, sg := He.eqO_ok h10, st := He.eqO_ok h11, sa := He.eqO_ok h12, no := He.eqO_ok h13, pr := j4, bd := j5, sc := j6, top := ?_ }⟩
            · split at h6
              · rename_i cd ecd
                obtain ⟨k1, k2⟩ := ban h6
                exact ⟨cd, ecd, k1, k2⟩
              · cases h6
            · simpa using h14
          · cases j3
        · cases j3
      · cases j2
    · cases h
  · cases h
open He in
theorem xmk {P : Program} {w : World} {K : PySem.W.Frag} {mg : Str → Option Value} {base h : Heap} {M : Nm} {T : Tb} {es : List Ent} (a : AllK P w K mg base h M T es (xB P M T)) : XMk (mkG P w K mg base M T es) := by
  intro n X s W c nm ex p pos t ctx hn hg hst ha h0
  obtain ⟨g1, g2, g3, g4, g5⟩ := ctx.glo hg
  obtain ⟨m1, hc⟩ := a.xd.mg c nm hn
  have q := a.xbs c hc
  unfold xB at q
  obtain ⟨kC, q⟩ := ban q
  have hm : X.mg nm = some (.ref ((mkG P w K mg base M T es).xa c)) := by rw [ctx.mg]; exact m1
  have eK : X.K = K := ctx.K
  have eP : X.prog = P := ctx.prog
  have hexc : excF T c = T.exc.getD c [] := rfl
  split at q
  · rename_i i ei
    obtain ⟨hi, q⟩ := ban q
    obtain ⟨cc, cda, v, qual, params, body, scope, cdv, fd, xx⟩ := exi_of q
    have q' := q
    unfold exiB at q'
    obtain ⟨h1, q'⟩ := ban q'
    obtain ⟨h2, q'⟩ := ban q'
    obtain ⟨h3, q'⟩ := ban q'
    obtain ⟨h4, q'⟩ := ban q'
    have hroom : X.A.depth + 1 < recursionLimit := by have := ctx.room.dp; omega
    refine pmk_x (C := ga K (M.exc.getD c "")) (by rw [eP, eK]; exact xx) (by rw [eK]; exact eqO_ok h1) (by rw [eK]; exact of_decide_eq_true h2) (by rw [eK]; exact of_decide_eq_true h3) (by rw [eK]; exact of_decide_eq_true h4) (by rw [eK]; exact kC) hroom g1 hm g2 hst ha h0 ?_
    rintro vs H1 Q ⟨j, y, ej, hv, hQ⟩
    have ej2 : T.exc.getD c [] = [j] := ej
    rw [ei] at ej2
    cases ej2
    refine ⟨y, hv, fun dx hdx => ?_⟩
    have := hQ dx hdx
    rw [att_at (of_decide_eq_true hi)] at this
    exact this
  · rename_i hne
    refine pmk_no (C := ga K (M.exc.getD c "")) (by rw [eK]; exact kC) g1 hm g2 hst ha h0 ?_
    rintro vs H1 Q ⟨j, y, ej, _, _⟩
    exact hne j ej
end Ev
end
section
set_option maxRecDepth 100000
set_option maxHeartbeats 8000000
/-! Ev, part 23: the law's end. -/
namespace Ev
open PySem PySem.Spec PyProof.Rows L2 He
def spL (K : PySem.W.Frag) : Sp := fun vs H Q _ => ∃ (a : Addr) (ns : List Int), vs = [.ref a] ∧ ns.length ≤ 63 ∧ SqL K H a (ns.map V.int) ∧ ∀ H', Q (.bl true) H'
theorem law_sp2 {G : Pg} {n f : Nat} (hps : (G.ps f).length = 1) (no : ∀ a o, G.K.lookup a = some o → o.cls ≠ .type "list") (hA : Asked G.T n f) {vs : List V} {H : Hp} {Q : VK} {E : XK} (h : spL G.K vs H Q E) : spF G n f vs H Q E := by
  obtain ⟨a, ns, rfl, hl, hS, hQ⟩ := h
  refine ⟨hps.symm, [], [], [.lst (ns.map .int)], rs_nil, RepL.cons (rep_script hS no) RepL.nil, ?_⟩
  obtain ⟨S, e⟩ := hA ns hl
  rw [e]
  intro m' H' v _ _ r
  rw [r.bl_inv]
  exact hQ H'
/-- an exception of any world -/
def CXw (P : Program) : CXT := fun o H s E e s' => ∃ w, L2.CX P w o H s E e s'
theorem cx_any {P : Program} {w : World} {K : PySem.W.Frag} {mg : Str → Option Value} {base : Heap} {k : Nat} {f : Addr} {fd : FuncData} {ps : List Str} {sp : Sp} (F : FnOk P w K mg base (L2.CX P w) k f fd ps sp) : FnOk P w K mg base (CXw P) k f fd ps sp :=
  ⟨F.len, fun A outer s H args us vs Q E hr e0 hb r hs => codeAny_mono (F.run A outer s H args us vs Q E hr e0 hb r hs) fun r s' h => by
    cases r with
    | error e => exact ⟨w, h⟩
    | ok fl => cases fl <;> exact h⟩
theorem cxw_no {P : Program} {H : Hp} {s : Shared} {e : Value} {s' : Shared} (h : CXw P [] H s (fun _ _ _ => False) e s') : False := by
  obtain ⟨w, a, B, H', cls, d, _, _, _, _, _, _, _, z⟩ := h
  exact z
theorem law_F {P : Program} {w : World} {K : PySem.W.Frag} {mg : Str → Option Value} {h : Heap} {M : Nm} {T : Tb} {es : List Ent} {xB : PySem.W.Frag → Nat → Bool} {f k : Nat} {fa : Addr} {e : Ent} (X : K.In h) (N : h.Ns mainGlobals mg) (t : textB M T es = true) (q : obsX (headB M T es xB) (es.map (·.d)) K = valD (es.map (·.d)))
    (bp : ∀ e ∈ es, BnP e) (bk : ∀ f n ks pm, (f, n, ks, pm) ∈ M.kws → ∀ e, es[f]? = some e → BnK e n ks pm) (bc : ∀ k n ks pm C f, (k, n, ks, pm) ∈ M.ckw → T.cls[k]? = some C → C.init = some f → ∀ e, es[f]? = some e → BnC e n ks pm)
    (xm : ∀ base, K.In base → AllK P w K mg base h M T es xB → XMk (mkG P w K mg base M T es)) (he : es[f]? = some e) (hmf : M.fns[f]? = some ("law" : Str)) (hps : e.ps = [("script" : Str)]) (hd0 : e.d.dfl = []) (hfa : mg ("law" : Str) = some (.ref fa)) (hA : Asked T k f) :
    ∃ (K : PySem.W.Frag) (fd : FuncData) (sp : Sp), K.In h ∧ (∀ (s : Shared) (u : Value), BindsTo s fd ⟨[u], []⟩ [(("script" : Str), u)]) ∧
      (∀ (H : Hp) (a : Addr) (ns : List Int), ns.length ≤ 63 → Only H → SqL K H a (ns.map V.int) → sp [.ref a] H (fun v _ => v = .bl true) fun _ _ _ => False) ∧
      ∀ base : Heap, K.In base → base.Ns mainGlobals mg → FnOk P w K mg base (CXw P) k fa fd [("script" : Str)] sp := by
  have q1 : headB M T es xB K = true := congrArg (fun z : AlD => z.1) q
  have q2 : es.map (fun e => fnW K e.d.at_) = es.map fun e => e.d.val := by
    have := congrArg (fun z : AlD => z.2) q
    simp only [obsX, valD, List.map_map] at this
    exact this
  have c : ∀ base, AllK P w K mg base h M T es xB := fun base => ⟨X, N, t, q1, q2⟩
  have h0 := (c h).hd bp bk bc
  obtain ⟨g1, _⟩ := h0.fn f "law" hmf (by decide)
  have g1 : mg ("law" : Str) = some (.ref (fAd K (es.getD f entD).d.at_)) := g1
  rw [hfa] at g1
  have g1 : fa = fAd K (es.getD f entD).d.at_ := by
    have := Option.some.inj g1
    cases this
    rfl
  have hf : f < T.fns.length := h0.fnl f (List.getElem?_eq_some_iff.mp hmf).1
  refine ⟨K, (mkG P w K mg h M T es).fd f, spL K, X, fun s u => ?_, fun H a ns hl _ hS => ⟨a, ns, rfl, hl, hS, fun _ => rfl⟩, fun base hK _ => ?_⟩
  · have FD := (c h).funD he
    have e0 : e.d.dvs K = [] := by
      show e.d.dfl.map _ = []
      rw [hd0]; rfl
    rw [e0] at FD
    have := FunD.bindsA (ps := e.ps) FD (bp e (List.mem_of_getElem? he)) s [u] (by rw [hps]; rfl)
    rw [hps] at this
    exact this
  · have cb := c base
    have lv := (lv_all (cb.hd bp bk bc) cb.np cb.xd (xm base hK cb) cb.ff k).1 f hf
    have eps : (mkG P w K mg base M T es).ps f = [("script" : Str)] := by
      show (es.getD f entD).ps = _
      rw [getD_of he, hps]
    rw [eps] at lv
    rw [g1]
    exact cx_any <| lv.imp fun vs H Q E hsp => law_sp2 (by rw [eps]; rfl) cb.noL hA hsp
end Ev
end
section
set_option maxRecDepth 100000
set_option maxHeartbeats 8000000
/-! Ev, part 24: reckoning with the evaluator. -/
namespace Ev
open PySem
/-! #### steps -/
@[simp] theorem os_ok {α : Type} (a : α) (S : Store) (ρ : Fr) (k : α → Store → Os) (t : Tag k) : (Rs.ok a S).os ρ k t = k a S := rfl
@[simp] theorem os_ex {α : Type} (c : Nat) (l : List D) (S : Store) (ρ : Fr) (k : α → Store → Os) (t : Tag k) : (Rs.ex c l S : Rs α).os ρ k t = .ex c l ρ S := rfl
@[simp] theorem sq_nx (ρ : Fr) (S : Store) (k : Fr → Store → Os) (t : Tag k) : (Os.nx ρ S).sq k t = k ρ S := rfl
@[simp] theorem sq_rt (d : D) (S : Store) (k : Fr → Store → Os) (t : Tag k) : (Os.rt d S).sq k t = .rt d S := rfl
@[simp] theorem sq_bk (ρ : Fr) (S : Store) (k : Fr → Store → Os) (t : Tag k) : (Os.bk ρ S).sq k t = .bk ρ S := rfl
@[simp] theorem sq_ct (ρ : Fr) (S : Store) (k : Fr → Store → Os) (t : Tag k) : (Os.ct ρ S).sq k t = .ct ρ S := rfl
@[simp] theorem sq_ex (c : Nat) (l : List D) (ρ : Fr) (S : Store) (k : Fr → Store → Os) (t : Tag k) : (Os.ex c l ρ S).sq k t = .ex c l ρ S := rfl
@[simp] theorem nox_ok {α : Type} (a : α) (S : Store) : (Rs.ok a S).nox = .ok a S := rfl
@[simp] theorem ofO_some {α : Type} (a : α) (S : Store) : ofO (some a) S = .ok a S := rfl
@[simp] theorem toR_rt (d : D) (S : Store) : toR (.rt d S) = .ok d S := rfl
@[simp] theorem toR_nx (ρ : Fr) (S : Store) : toR (.nx ρ S) = .ok .non S := rfl
@[simp] theorem toR_ex (c : Nat) (l : List D) (ρ : Fr) (S : Store) : toR (.ex c l ρ S) = .ex c l S := rfl
@[simp] theorem th_ok2 {α β : Type} (a : α) (S : Store) (k : α → Store → Rs β) (t : Tag k) : (Rs.ok a S).th k t = k a S := th_ok a S k t
@[simp] theorem th_ex2 {α β : Type} (c : Nat) (l : List D) (S : Store) (k : α → Store → Rs β) (t : Tag k) : (Rs.ex c l S : Rs α).th k t = .ex c l S := th_ex c l S k t
theorem sq_ite {c : Prop} [Decidable c] (a b : Os) (k : Fr → Store → Os) (t : Tag k) : (if c then a else b).sq k t = if c then a.sq k t else b.sq k t := by split <;> rfl
theorem toR_ite {c : Prop} [Decidable c] (a b : Os) : toR (if c then a else b) = if c then toR a else toR b := by split <;> rfl
/-! #### a call's end -/
theorem tidy_len {fz : Bool} {S S' : Store} {d : D} (h : S'.length = S.length) : tidy fz S (.ok d S') = .ok d S' := by
  have e : S'.take S.length = S' := by rw [← h]; exact List.take_length
  unfold tidy
  simp only [e]
  split
  · split
    · rfl
    · rename_i hb
      split
      · split
        · rename_i n
          split
          · rename_i l el
            have := (List.getElem?_eq_some_iff.mp el).1
            simp only [below, decide_eq_true_eq] at hb
            omega
          · rfl
        · rfl
      · rfl
  · rfl
theorem tidy_same (fz : Bool) (S : Store) (d : D) : tidy fz S (.ok d S) = .ok d S := tidy_len rfl
theorem tidy_ex {fz : Bool} {S S' : Store} {c : Nat} {l : List D} (h : S'.length = S.length) : tidy fz S (.ex c l S') = .ex c l S' := by
  have e : S'.take S.length = S' := by rw [← h]; exact List.take_length
  unfold tidy
  simp only [e]
  split <;> rfl
theorem tidy_exS (fz : Bool) (S : Store) (c : Nat) (l : List D) : tidy fz S (.ex c l S) = .ex c l S := tidy_ex rfl
theorem run_def {T : Tb} {n f : Nat} {ds : List D} {S : Store} {F : Fn} (h : T.fns[f]? = some F) (hl : ds.length = F.np) : run T (n + 1) f ds S = tidy F.fz S (toR (exSs (csOf T n) F.body (startF F.nv ds) S)) := by
  rw [run_succ]
  unfold runB
  rw [csOf_T, h]
  simp only [hl, if_true]
/-! #### loops -/
section
variable {c : Fr → Store → Rs Bool} {f : Fr → Store → Os}
theorem whlN_mono : ∀ {n m : Nat} {ρ : Fr} {S : Store} {r : Os}, n ≤ m → whlN c f n ρ S = some r → whlN c f m ρ S = some r
  | 0, _, _, _, _, _, h => by cases h
  | n + 1, 0, _, _, _, hm, _ => absurd hm (Nat.not_succ_le_zero n)
  | n + 1, m + 1, ρ, S, r, hm, h => by
    have hm' : n ≤ m := Nat.le_of_succ_le_succ hm
    simp only [whlN] at h ⊢
    cases hc : c ρ S with
    | ok b S1 =>
      rw [hc] at h
      cases b with
      | false => exact h
      | true =>
        simp only at h ⊢
        cases hf : f ρ S1 with
        | nx ρ2 S2 => rw [hf] at h; exact whlN_mono hm' h
        | ct ρ2 S2 => rw [hf] at h; exact whlN_mono hm' h
        | bk ρ2 S2 => rw [hf] at h; exact h
        | rt d S2 => rw [hf] at h; exact h
        | ex a b c d => rw [hf] at h; exact h
        | bad => rw [hf] at h; exact h
    | ex x l S1 => rw [hc] at h; exact h
    | bad => rw [hc] at h; exact h
theorem whl_of {n : Nat} {ρ : Fr} {S : Store} {r : Os} (h : whlN c f n ρ S = some r) : whl c f ρ S = r := by
  have hx : ∃ n r, whlN c f n ρ S = some r := ⟨n, r, h⟩
  unfold whl
  rw [dif_pos hx]
  have h2 := hx.choose_spec.choose_spec
  generalize hx.choose_spec.choose = r2 at h2 ⊢
  generalize hx.choose = k at h2
  have a1 := whlN_mono (Nat.le_max_left n k) h
  have a2 := whlN_mono (Nat.le_max_right n k) h2
  rw [a1] at a2
  exact (Option.some.inj a2).symm
/-- a turn -/
theorem whlN_turn {n : Nat} {ρ ρ2 : Fr} {S S1 S2 : Store} (hc : c ρ S = .ok true S1) (hf : f ρ S1 = .nx ρ2 S2) : whlN c f (n + 1) ρ S = whlN c f n ρ2 S2 := by
  simp only [whlN, hc, hf]
theorem whlN_end {n : Nat} {ρ : Fr} {S S1 : Store} (hc : c ρ S = .ok false S1) : whlN c f (n + 1) ρ S = some (.nx ρ S1) := by
  simp only [whlN, hc]
end
theorem gOk_nil (S : Store) : gOk [] S = true := by unfold gOk; simp
@[simp] theorem csOf_T' (T : Tb) (n : Nat) : (csOf T n).T = T := csOf_T T n
@[simp] theorem csOf_fn' (T : Tb) (n : Nat) : (csOf T n).fn = run T n := rfl
theorem wd_small {i : Int} (h : i.natAbs < 2 ^ 3999) : i.natAbs < Wd := Nat.lt_trans h (by unfold Wd; exact Nat.pow_lt_pow_right (by decide) (by decide))
end Ev
end
section
set_option maxRecDepth 100000
set_option maxHeartbeats 8000000
/-! what the laws' own helpers compute, once for all tables -/
namespace Lg
open Ev
def bPickL : Sts := (.cons (.ife (.or (.cmp .gt (.idx (.var 0) (.int 2)) (.int 0)) (.cmp .ge (.idx (.var 0) (.int 1)) (.bi .len false (.cons (.var 2) .nil))))
    (.cons .brk
    .nil)
    .nil)
    (.cons (.ife (.cmp .ge (.bi .abs false (.cons (.idx (.var 2) (.idx (.var 0) (.int 1))) .nil)) (.bin .pow false (.int 10) (.int 15)))
    (.cons (.asgI (.var 0) (.int 2) (.bi .abs false (.cons (.idx (.var 2) (.idx (.var 0) (.int 1))) .nil)))
    .nil)
    .nil)
    (.cons (.asgI (.var 0) (.int 1) (.bin .add false (.idx (.var 0) (.int 1)) (.int 1)))
    .nil)))
def bPick2 : Sts :=     (.cons (.asg 5 (.bin .mod false (.bi .int false (.cons (.bin .add false (.bin .add false (.bin .mul false (.var 4) (.int 69069)) (.bin .mul false (.idx (.var 0) (.int 3)) (.int 40503))) (.int 271)) .nil)) (.int 4294967291)))
    (.cons (.asg 5 (.bin .mod false (.bi .int false (.cons (.bin .add false (.bin .add false (.bin .mul false (.var 5) (.var 5)) (.bin .mul false (.idx (.var 0) (.int 3)) (.int 26539))) (.int 97)) .nil)) (.int 4294967279)))
    (.cons (.asg 5 (.bin .mod false (.bi .int false (.cons (.bin .add false (.bin .add false (.bin .mul false (.var 5) (.int 31821)) (.bin .div false (.var 4) (.int 9))) (.int 11)) .nil)) (.int 2147483629)))
    (.cons (.ret (.bin .mod false (.bi .int false (.cons (.bin .div false (.var 5) (.int 6)) .nil)) (.var 1)))
    .nil))))
def bPick : Sts := (.cons (.asg 2 (.idx (.var 0) (.int 0)))
    (.cons (.asgI (.var 0) (.int 3) (.bin .add false (.idx (.var 0) (.int 3)) (.int 1)))
    (.cons (.forr (.nm 3) (.rng (.cons (.bi .len false (.cons (.var 2) .nil)) .nil))
    bPickL)
    (.cons (.ife (.cmp .gt (.idx (.var 0) (.int 2)) (.int 0))
    (.cons (.asg 6 (.bin .mod false (.bi .int false (.cons (.idx (.var 0) (.int 2)) .nil)) (.var 1)))
    (.cons (.asgI (.var 0) (.int 2) (.bin .div false (.idx (.var 0) (.int 2)) (.var 1)))
    (.cons (.ret (.var 6))
    .nil)))
    .nil)
    (.cons (.asg 4 (.int 0))
    (.cons (.ife (.cmp .gt (.bi .len false (.cons (.var 2) .nil)) (.int 0))
    (.cons (.asg 4 (.bin .mod false (.bi .int false (.cons (.bi .abs false (.cons (.idx (.var 2) (.bin .mod false (.bi .int false (.cons (.idx (.var 0) (.int 3)) .nil)) (.bi .len false (.cons (.var 2) .nil)))) .nil)) .nil)) (.int 1000000007)))
    .nil)
    .nil)
    bPick2))))))
def bGcdL : Sts := (.cons (.ife (.cmp .eq (.var 1) (.int 0))
    (.cons .brk
    .nil)
    .nil)
    (.cons (.asg 3 (.bin .mod false (.bi .int false (.cons (.var 0) .nil)) (.var 1)))
    (.cons (.asg 0 (.var 1))
    (.cons (.asg 1 (.var 3))
    .nil))))
def bGcd : Sts := (.cons (.asg 0 (.bi .abs false (.cons (.var 0) .nil)))
    (.cons (.asg 1 (.bi .abs false (.cons (.var 1) .nil)))
    (.cons (.forr (.nm 2) (.rng (.cons (.bin .add false (.bin .mul false (.int 2) (.bi .max false (.cons (.bm .bitLength (.var 0) .nil) (.cons (.bm .bitLength (.var 1) .nil) .nil)))) (.int 2)) .nil))
    bGcdL)
    (.cons (.ret (.var 0))
    .nil))))
def bStart : Sts := (.cons (.ret (.lst true (.cons (.lc false [1] (.nm 1) (.seq (.var 0)) .no (.bi .int false (.cons (.var 1) .nil))) (.cons (.int 0) (.cons (.int 0) (.cons (.int 0) .nil))))))
    .nil)
def stc (ns : List Int) (a b c : Int) : Cell := .lst [.lst (ns.map .int), .int a, .int b, .int c]
/-- items that change nothing -/
theorem lcL_map {ι : Type} {tg : Tg} {fc : Fr → Store → Rs Bool} {fe : Fr → Store → Rs D} {ρ : Fr} {g : Gd} {X : Store} (j : ι → D) (v : ι → D)
    (h : ∀ (i : ι) (acc : List D), gOk g (X ++ [.lst acc]) = true ∧ ∃ ρ1, setT tg (j i) ρ (X ++ [.lst acc]) = some ρ1 ∧ fc ρ1 (X ++ [.lst acc]) = .ok true (X ++ [.lst acc]) ∧ fe ρ1 (X ++ [.lst acc]) = .ok (v i) (X ++ [.lst acc])) :
    ∀ (l : List ι) (acc : List D), acc.length + l.length ≤ LIM → lcL tg fc fe ρ g X.length (l.map j) (X ++ [.lst acc]) = if gOk g (X ++ [.lst (acc ++ l.map v)]) then .ok () (X ++ [.lst (acc ++ l.map v)]) else .bad
  | [], acc, _ => by simp [lcL]
  | i :: l, acc, hl => by
    obtain ⟨hg, ρ1, h1, h2, h3⟩ := h i acc
    simp only [List.length_cons] at hl
    have := lcL_map j v h l (acc ++ [v i]) (by simp; omega)
    simp only [List.map_cons, lcL, hg, if_true, h1, h2, h3, th_ok]
    simp only [List.getElem?_append_right (Nat.le_refl _), Nat.sub_self, List.getElem?_cons_zero]
    rw [if_pos (by omega)]
    simp only [List.append_assoc, List.singleton_append] at this
    rw [show (X ++ [Cell.lst acc]).set X.length (.lst (acc ++ [v i])) = X ++ [Cell.lst (acc ++ [v i])] by simp, this]
theorem start_of {T : Tb} {f : Nat} (h : T.fns[f]? = some ⟨1, 2, bStart, false⟩) {ns : List Int} (hn : ns.length ≤ 63) (n : Nat) : run T (n + 1) f [.lst (ns.map .int)] [] = .ok (.ref 0) [stc ns 0 0 0] := by
  rw [run_def h rfl]
  have := lcL_map (tg := .nm 1) (fc := fun ρ S => evC (csOf T n) .no ρ S) (fe := fun ρ S => evE (csOf T n) (.bi .int false (.cons (.var 1) .nil)) ρ S) (ρ := wipe [some (D.lst (List.map D.int ns)), none] [1]) (g := []) (X := []) D.int D.int (fun i acc => ⟨gOk_nil _, _, rfl, by simp [exSs, exS, evE, evT, evL, evI, evC, evW, startF, toR_nx], by simp [setS, wipe, biD, exSs, exS, evE, evT, evL, evI, evC, evW, startF, toR_nx]⟩) ns [] (by simp [LIM]; omega)
  simp only [List.length_nil, List.nil_append, gOk_nil, if_true] at this
  have hb : belowL 0 (ns.map .int) = true := by
    clear this hn
    induction ns with
    | nil => rfl
    | cons i l ih => simp [belowL, below, ih]
  simp [exSs, exS, evE, evT, evL, evI, evC, evW, startF, toR_nx] at this
  simp [exSs, exS, evE, evT, evL, evI, evC, evW, startF, toR_nx, bStart, seqIt, seqOf, Ev.guard, this, lcE, cutOk, hb, mkL, tidy, below, stc]
theorem ixN_of {n : Nat} {i : Int} (h0 : 0 ≤ i) (h1 : i < n) : ixN n i = some i.toNat := by unfold ixN; rw [if_pos h0, if_pos h1]
theorem abs_of (i : Int) : (if i < 0 then -i else i) = (i.natAbs : Int) := by split <;> omega
section
variable {tg : Tg} {f : Fr → Store → Os} {d : D} {ds : List D} {ρ ρ1 ρ2 : Fr} {S S2 : Store} {g : Gd}
theorem forL_nil : forL tg f [] [] ρ S = .nx ρ S := by simp [forL, gOk_nil]
theorem forL_nx (h1 : setT tg d ρ S = some ρ1) (h2 : f ρ1 S = .nx ρ2 S2) : forL tg f [] (d :: ds) ρ S = forL tg f [] ds ρ2 S2 := by simp only [forL, gOk_nil, if_true, h1, h2]
theorem forL_ct (h1 : setT tg d ρ S = some ρ1) (h2 : f ρ1 S = .ct ρ2 S2) : forL tg f [] (d :: ds) ρ S = forL tg f [] ds ρ2 S2 := by simp only [forL, gOk_nil, if_true, h1, h2]
theorem forL_bk (h1 : setT tg d ρ S = some ρ1) (h2 : f ρ1 S = .bk ρ2 S2) : forL tg f [] (d :: ds) ρ S = .nx ρ2 S2 := by simp only [forL, gOk_nil, if_true, h1, h2]
theorem forL_rt {e : D} (h1 : setT tg d ρ S = some ρ1) (h2 : f ρ1 S = .rt e S2) : forL tg f [] (d :: ds) ρ S = .rt e S2 := by simp only [forL, gOk_nil, if_true, h1, h2]
end
theorem pick_loop (C : Cs) (ns : List Int) (m c : Int) (X : Store) : ∀ (L : List D) (x : Option D) (a b : Int), 0 ≤ a → 0 ≤ b → ∃ x' a' b', forL (.nm 3) (fun ρ S => exSs C bPickL ρ S) [] L [some (.ref 0), some (.int m), some (.lst (ns.map .int)), x, none, none, none] (stc ns a b c :: X) = .nx [some (.ref 0), some (.int m), some (.lst (ns.map .int)), x', none, none, none] (stc ns a' b' c :: X) ∧ 0 ≤ a' ∧ 0 ≤ b'
  | [], x, a, b, ha, hb => ⟨x, a, b, by simp [forL, gOk_nil], ha, hb⟩
  | d :: L, x, a, b, ha, hb => by
    by_cases h1 : 0 < b
    · exact ⟨some d, a, b, forL_bk rfl (by simp (dsimp := false) (implicitDefEqProofs := false) [setS, bPickL, stc, idxD, seqOf, ixN, cmpD, intCmp, cmpI, h1, exSs, exS, evE, evT, evL, evI, evC, evW, startF, toR_nx]), ha, hb⟩
    by_cases h2 : (ns.length : Int) ≤ a
    · exact ⟨some d, a, b, forL_bk rfl (by simp (dsimp := false) (implicitDefEqProofs := false) [setS, bPickL, stc, idxD, seqOf, ixN, cmpD, intCmp, cmpI, h1, h2, biD, exSs, exS, evE, evT, evL, evI, evC, evW, startF, toR_nx]), ha, hb⟩
    have h3 : a.toNat < ns.length := by omega
    have h4 : a < ns.length := by omega
    by_cases h5 : (1000000000000000 : Int) ≤ (ns[a.toNat]).natAbs
    · obtain ⟨x', a', b', e, h⟩ := pick_loop C ns m c X L (some d) (a + 1) (ns[a.toNat]).natAbs (by omega) (by omega)
      refine ⟨x', a', b', ?_, h⟩
      rw [← e]
      exact forL_nx rfl (by simp (dsimp := false) (implicitDefEqProofs := false) [setS, bPickL, stc, idxD, seqOf, ixN, cmpD, intCmp, cmpI, h1, h2, biD, ha, h3, h4, abs_of, binD, arI, setI, h5, exSs, exS, evE, evT, evL, evI, evC, evW, startF, toR_nx])
    · obtain ⟨x', a', b', e, h⟩ := pick_loop C ns m c X L (some d) (a + 1) b (by omega) (by omega)
      refine ⟨x', a', b', ?_, h⟩
      rw [← e]
      exact forL_nx rfl (by simp (dsimp := false) (implicitDefEqProofs := false) [setS, bPickL, stc, idxD, seqOf, ixN, cmpD, intCmp, cmpI, h1, h2, biD, ha, h3, h4, abs_of, binD, arI, setI, h5, exSs, exS, evE, evT, evL, evI, evC, evW, startF, toR_nx])
theorem lim_le {n : Nat} (h : n ≤ 1000) : n ≤ LIM := by unfold LIM; omega
theorem wd_n {n : Nat} (h : n < 2 ^ 200) : n < Wd := Nat.lt_trans h (by unfold Wd; exact Nat.pow_lt_pow_right (by decide) (by decide))
theorem wd_lt2 {i : Int} (h0 : 0 ≤ i) (h : i < 2 ^ 200) : i.natAbs < Wd := wd_n (by omega)
/-- the mixing at the end -/
theorem pick_of {T : Tb} {f : Nat} (h : T.fns[f]? = some ⟨2, 7, bPick, true⟩) {ns : List Int} (hn : ns.length ≤ 63) {a b c m : Int} (ha : 0 ≤ a) (hb : 0 ≤ b) (hc : 0 ≤ c) (hcw : c < 2 ^ 100) (hm : 0 < m) (hmw : m < 2 ^ 100) (n : Nat) (X : Store) :
    ∃ r a' b', run T (n + 1) f [.ref 0, .int m] (stc ns a b c :: X) = .ok (.int r) (stc ns a' b' (c + 1) :: X) ∧ 0 ≤ r ∧ r < m ∧ 0 ≤ a' ∧ 0 ≤ b' := by
  obtain ⟨x', a', b', e, ha', hb'⟩ := pick_loop (csOf T n) ns m (c + 1) X (upTo 0 ns.length) none a b ha hb
  have hl := lim_le (n := ns.length) (by omega)
  have hw : m.natAbs < Wd := wd_lt2 (by omega) (by omega)
  have cw : (c + 1).natAbs < Wd := wd_lt2 (by omega) (by omega)
  simp only [stc] at e
  by_cases h1 : 0 < b'
  · refine ⟨b' % m, a', b' / m, ?_, Int.emod_nonneg _ (by omega), Int.emod_lt_of_pos _ hm, ha', Int.ediv_nonneg hb' (by omega)⟩
    rw [run_def h rfl]
    simp (dsimp := false) (implicitDefEqProofs := false) [bPick, stc, idxD, seqOf, ixN, binD, arI, setI, setS, biD, rngIt, hl, e, cmpD, intCmp, cmpI, h1, hm, hw, exSs, exS, evE, evT, evL, evI, evC, evW, startF, toR_nx]
    exact tidy_len rfl
  · have fin : ∀ s : Int, 0 ≤ s → s < 1000000007 → ∃ r, 0 ≤ r ∧ r < m ∧ exSs (csOf T n) bPick2 [some (.ref 0), some (.int m), some (.lst (ns.map .int)), x', some (.int s), none, none] (stc ns a' b' (c + 1) :: X) = .rt (.int r) (stc ns a' b' (c + 1) :: X) := by
      intro s h0 h2
      have k1 : s.natAbs < Wd := wd_lt2 (by omega) (by omega)
      have g1 : ∀ i j : Int, 0 < j → j < 2 ^ 100 → (i % j).natAbs < Wd := fun i j x y => by
        have := Int.emod_nonneg i (show j ≠ 0 by omega)
        have := Int.emod_lt_of_pos i x
        exact wd_lt2 (by omega) (by omega)
      have g2 : ∀ i : Nat, i < 2 ^ 100 → i < Wd := fun i x => by
        have := wd_lt2 (i := (i : Int)) (by omega) (by omega)
        omega
      refine ⟨_, ?_, ?_, by
        simp (dsimp := false) (implicitDefEqProofs := false) [bPick2, stc, idxD, seqOf, ixN, binD, arI, setI, setS, biD, hm, k1, cw, g2, g1, exSs, exS, evE, evT, evL, evI, evC, evW, startF, toR_nx]
        rfl⟩
      · exact Int.emod_nonneg _ (by omega)
      · exact Int.emod_lt_of_pos _ hm
    simp only [stc] at fin
    by_cases h2 : 0 < ns.length
    · have n1 : ((c + 1) % (ns.length : Int)).toNat < ns.length := by
        have := Int.emod_lt_of_pos (c + 1) (show (0 : Int) < ns.length by omega)
        have := Int.emod_nonneg (c + 1) (show (ns.length : Int) ≠ 0 by omega)
        omega
      have n2 : (c + 1) % (ns.length : Int) < ns.length := Int.emod_lt_of_pos (c + 1) (show (0 : Int) < ns.length by omega)
      have n3 : 0 ≤ (c + 1) % (ns.length : Int) := Int.emod_nonneg (c + 1) (show (ns.length : Int) ≠ 0 by omega)
      obtain ⟨r, r0, r1, er⟩ := fin (((ns[((c + 1) % (ns.length : Int)).toNat]).natAbs : Int) % 1000000007) (Int.emod_nonneg _ (by omega)) (Int.emod_lt_of_pos _ (by omega))
      refine ⟨r, a', b', ?_, r0, r1, ha', hb'⟩
      rw [run_def h rfl]
      simp (dsimp := false) (implicitDefEqProofs := false) [bPick, stc, idxD, seqOf, ixN, binD, arI, setI, setS, biD, rngIt, hl, e, cmpD, intCmp, cmpI, h1, hm, hw, h2, n1, n2, n3, abs_of, er, exSs, exS, evE, evT, evL, evI, evC, evW, startF, toR_nx]
      exact tidy_len rfl
    · obtain ⟨r, r0, r1, er⟩ := fin 0 (by omega) (by omega)
      refine ⟨r, a', b', ?_, r0, r1, ha', hb'⟩
      rw [run_def h rfl]
      simp (dsimp := false) (implicitDefEqProofs := false) [bPick, stc, idxD, seqOf, ixN, binD, arI, setI, setS, biD, rngIt, hl, e, cmpD, intCmp, cmpI, h1, hm, hw, h2, er, exSs, exS, evE, evT, evL, evI, evC, evW, startF, toR_nx]
      exact tidy_len rfl
theorem bits_lt (i : Int) : i.natAbs < 2 ^ PySem.Builtin.Int.intBits i := by
  unfold PySem.Builtin.Int.intBits
  split
  · rename_i h0
    have : i = 0 := by simpa using h0
    subst this; decide
  · exact Nat.lt_log2_self
theorem bits_le {i : Int} {k : Nat} (h : i.natAbs < 2 ^ k) : PySem.Builtin.Int.intBits i ≤ k := by
  unfold PySem.Builtin.Int.intBits
  split
  · exact Nat.zero_le _
  · rename_i h0
    have h0 : i.natAbs ≠ 0 := by
      intro e
      exact h0 (by simpa using e)
    exact (Nat.log2_lt h0).mpr h
theorem gcd_loop (C : Cs) (S : Store) : ∀ (j : Nat) (L : List D) (x y : Option D) (a b : Nat), b < 2 ^ j → 2 * j ≤ L.length → ∃ x' y', forL (.nm 2) (fun ρ S => exSs C bGcdL ρ S) [] L [some (.int a), some (.int b), x, y] S = .nx [some (.int (a.gcd b : Nat)), some (.int 0), x', y'] S
  | j, L, x, y, a, 0, hb, hl => by
    rw [Nat.gcd_zero_right]
    match L with
    | [] => exact ⟨x, y, forL_nil⟩
    | d :: L => exact ⟨some d, y, forL_bk rfl (by simp (dsimp := false) (implicitDefEqProofs := false) [setS, bGcdL, cmpD, pln, vw, eqD, exSs, exS, evE, evT, evL, evI, evC, evW, startF, toR_nx])⟩
  | 0, _, _, _, _, b + 1, hb, _ => absurd hb (by simp)
  | j + 1, L, x, y, a, b + 1, hb, hl => by
    match L, hl with
    | d :: e :: L, hl =>
      have step : ∀ (d : D) (u v : Nat) (y : Option D), exSs C bGcdL [some (.int u), some (.int (v + 1 : Nat)), some d, y] S = .nx [some (.int (v + 1 : Nat)), some (.int (u % (v + 1) : Nat)), some d, some (.int (u % (v + 1) : Nat))] S := by
        intro d u v y
        have h1 : ((v : Int) + 1 == 0) = false := by
          apply beq_eq_false_iff_ne.mpr
          omega
        have h2 : (0 : Int) < (v : Int) + 1 := by omega
        simp (dsimp := false) (implicitDefEqProofs := false) [setS, bGcdL, cmpD, pln, vw, eqD, h1, binD, arI, biD, h2, exSs, exS, evE, evT, evL, evI, evC, evW, startF, toR_nx]
      rw [forL_nx rfl (step d a b y)]
      have e1 : a.gcd (b + 1) = (b + 1).gcd (a % (b + 1)) := by rw [Nat.gcd_comm, Nat.gcd_rec, Nat.gcd_comm]
      rw [e1]
      have hr : a % (b + 1) < b + 1 := Nat.mod_lt _ (Nat.succ_pos _)
      generalize a % (b + 1) = r at hr
      cases r with
      | zero =>
        rw [Nat.gcd_zero_right]
        exact ⟨some e, some (.int ((0 : Nat) : Int)), forL_bk rfl (by simp (dsimp := false) (implicitDefEqProofs := false) [setS, bGcdL, cmpD, pln, vw, eqD, exSs, exS, evE, evT, evL, evI, evC, evW, startF, toR_nx])⟩
      | succ r =>
        rw [forL_nx rfl (step e (b + 1) r _)]
        have e2 : (b + 1).gcd (r + 1) = (r + 1).gcd ((b + 1) % (r + 1)) := by rw [Nat.gcd_comm, Nat.gcd_rec, Nat.gcd_comm]
        rw [e2]
        have hq : (b + 1) % (r + 1) < 2 ^ j := by
          have t1 : (b + 1) % (r + 1) < r + 1 := Nat.mod_lt _ (Nat.succ_pos _)
          have t2 : (b + 1) % (r + 1) ≤ b + 1 - (r + 1) := by
            rw [Nat.mod_eq_sub_mod (by omega)]
            exact Nat.mod_le _ _
          rw [Nat.pow_succ] at hb
          omega
        exact gcd_loop C S j L _ _ _ _ hq (by simp at hl; omega)
theorem gcd_of {T : Tb} {f : Nat} (h : T.fns[f]? = some ⟨2, 4, bGcd, true⟩) (a b : Int) (ha : a.natAbs < 2 ^ 100000) (hb : b.natAbs < 2 ^ 100000) (n : Nat) (S : Store) : run T (n + 1) f [.int a, .int b] S = .ok (.int (Int.gcd a b : Nat)) S := by
  have q1 := bits_le (i := (a.natAbs : Int)) (by simpa using ha)
  have q2 := bits_le (i := (b.natAbs : Int)) (by simpa using hb)
  have q3 := bits_lt (b.natAbs : Int)
  rw [Int.natAbs_natCast] at q3
  generalize hu : PySem.Builtin.Int.intBits (a.natAbs : Int) = u at q1
  generalize hv : PySem.Builtin.Int.intBits (b.natAbs : Int) = v at q2 q3
  have hk : ∃ k : Nat, (2 * (if u < v then (v : Int) else u) + 2 = (k : Int)) ∧ 2 * v ≤ k ∧ k ≤ LIM := by
    refine ⟨2 * (if v > u then v else u) + 2, ?_, ?_, ?_⟩
    · split <;> omega
    · split <;> omega
    · unfold LIM; split <;> omega
  obtain ⟨k, k1, k2, k3⟩ := hk
  obtain ⟨x', y', e⟩ := gcd_loop (csOf T n) S v (upTo 0 k) none none a.natAbs b.natAbs q3 (by
    have : ∀ (k : Nat) (i : Int), (upTo i k).length = k := by
      intro k
      induction k with
      | zero => intro i; rfl
      | succ k ih => intro i; simp [upTo, ih]
    rw [this]; exact k2)
  have w1 : ∀ i : Nat, i < 2 ^ 200 → i < Wd := fun i x => wd_n x
  have w2 : (if u < v then (v : Int) else u).natAbs < Wd := wd_n (by split <;> omega)
  rw [run_def h rfl]
  simp (dsimp := false) (implicitDefEqProofs := false) [bGcd, setS, biD, abs_of, bmOk, bmD, hu, hv, binD, arI, w1, w2, rngIt, k1, k3, e, exSs, exS, evE, evT, evL, evI, evC, evW, startF, toR_nx]
  rw [← Int.gcd_eq_natAbs_gcd_natAbs]
  exact tidy_same _ _ _
def bSameL (f : Nat) : Sts := (.cons (.ife (.not (.call f (.cons (.idx (.var 0) (.var 2)) (.cons (.idx (.var 1) (.var 2)) .nil))))
    (.cons (.ret (.bl false))
    .nil)
    .nil)
    .nil)
def bSame (f : Nat) : Sts := (.cons (.ife (.isN false (.var 1))
    (.cons (.ret (.isN false (.var 0)))
    .nil)
    .nil)
    (.cons (.ife (.isI (.var 1) [.b .bool] false)
    (.cons (.ret (.and (.isI (.var 0) [.b .bool] false) (.cmp .eq (.var 0) (.var 1))))
    .nil)
    .nil)
    (.cons (.ife (.isI (.var 1) [.b .int] false)
    (.cons (.ret (.and (.isI (.var 0) [.b .int] false) (.and (.not (.isI (.var 0) [.b .bool] false)) (.cmp .eq (.var 0) (.var 1)))))
    .nil)
    .nil)
    (.cons (.ife (.isI (.var 1) [.b .str] false)
    (.cons (.ret (.and (.isI (.var 0) [.b .str] false) (.cmp .eq (.var 0) (.var 1))))
    .nil)
    .nil)
    (.cons (.ife (.or (.not (.isI (.var 0) [.b .tuple] false)) (.cmp .ne (.bi .len false (.cons (.var 0) .nil)) (.bi .len false (.cons (.var 1) .nil))))
    (.cons (.ret (.bl false))
    .nil)
    .nil)
    (.cons (.forr (.nm 2) (.rng (.cons (.bi .len false (.cons (.var 1) .nil)) .nil))
    (bSameL f))
    (.cons (.ret (.bl true))
    .nil)))))))
@[simp] theorem bt_beq (a b : Bt) : (a == b) = decide (a = b) := rfl
mutual
/-- what _law_same compares with itself -/
def sm : Nat → D → Bool
  | _, .non => true
  | _, .bl _ => true
  | _, .int _ => true
  | _, .str s => s.all (· < 0x110000)
  | 0, .tup _ => false
  | k + 1, .tup l => decide (l.length ≤ 1000) && smL k l
  | _, _ => false
def smL : Nat → List D → Bool
  | _, [] => true
  | k, d :: l => sm k d && smL k l
end
theorem smL_get : ∀ {k : Nat} {l : List D} {i : Nat} {d : D}, smL k l = true → l[i]? = some d → sm k d = true
  | _, [], _, _, _, h => by simp at h
  | k, x :: l, 0, d, h, e => by
    simp only [smL, Bool.and_eq_true] at h
    simp only [List.getElem?_cons_zero, Option.some.injEq] at e
    rw [← e]; exact h.1
  | k, x :: l, i + 1, d, h, e => by
    simp only [smL, Bool.and_eq_true] at h
    simp only [List.getElem?_cons_succ] at e
    exact smL_get h.2 e
theorem same_loop {C : Cs} {f : Nat} {l : List D} {S : Store} (h : ∀ d ∈ l, C.fn f [d, d] S = .ok (.bl true) S) : ∀ (m i : Nat) (x : Option D), i + m = l.length → ∃ x', forL (.nm 2) (fun ρ S => exSs C (bSameL f) ρ S) [] (upTo i m) [some (.tup l), some (.tup l), x] S = .nx [some (.tup l), some (.tup l), x'] S
  | 0, i, x, _ => ⟨x, forL_nil⟩
  | m + 1, i, x, hi => by
    have hl : i < l.length := by omega
    have hl2 : (i : Int) < l.length := by omega
    obtain ⟨x', e⟩ := same_loop h m (i + 1) (some (.int i)) (by omega)
    refine ⟨x', ?_⟩
    rw [← e]
    have hd := h _ (List.getElem_mem hl)
    exact forL_nx rfl (by simp (dsimp := false) (implicitDefEqProofs := false) [setS, bSameL, idxD, seqOf, ixN, hl, hd, truD, exSs, exS, evE, evT, evL, evI, evC, evW, startF, toR_nx])
theorem same_of {T : Tb} {f : Nat} (h : T.fns[f]? = some ⟨2, 3, bSame f, true⟩) : ∀ (k : Nat) (d : D), sm k d = true → ∀ (n : Nat) (S : Store), k ≤ n → run T (n + 1) f [d, d] S = .ok (.bl true) S := by
  intro k
  induction k with
  | zero =>
    intro d hd n S _
    rw [run_def h rfl]
    cases d with
    | non => simp (dsimp := false) (implicitDefEqProofs := false) [bSame, isNo, tidy_same, exSs, exS, evE, evT, evL, evI, evC, evW, startF, toR_nx]
    | bl b => simp (dsimp := false) (implicitDefEqProofs := false) [bSame, isNo, isAny, isD, truD, cmpD, pln, vw, eqD, tidy_same, exSs, exS, evE, evT, evL, evI, evC, evW, startF, toR_nx]
    | int i => simp (dsimp := false) (implicitDefEqProofs := false) [bSame, isNo, isAny, isD, truD, cmpD, pln, vw, eqD, tidy_same, exSs, exS, evE, evT, evL, evI, evC, evW, startF, toR_nx]
    | str s =>
      simp only [sm] at hd
      simp (dsimp := false) (implicitDefEqProofs := false) [bSame, isNo, isAny, isD, truD, cmpD, pln, vw, eqD, tidy_same, hd, exSs, exS, evE, evT, evL, evI, evC, evW, startF, toR_nx]
    | _ => simp [sm] at hd
  | succ k ih =>
    intro d hd n S hn
    rw [run_def h rfl]
    cases d with
    | non => simp (dsimp := false) (implicitDefEqProofs := false) [bSame, isNo, tidy_same, exSs, exS, evE, evT, evL, evI, evC, evW, startF, toR_nx]
    | bl b => simp (dsimp := false) (implicitDefEqProofs := false) [bSame, isNo, isAny, isD, truD, cmpD, pln, vw, eqD, tidy_same, exSs, exS, evE, evT, evL, evI, evC, evW, startF, toR_nx]
    | int i => simp (dsimp := false) (implicitDefEqProofs := false) [bSame, isNo, isAny, isD, truD, cmpD, pln, vw, eqD, tidy_same, exSs, exS, evE, evT, evL, evI, evC, evW, startF, toR_nx]
    | str s =>
      simp only [sm] at hd
      simp (dsimp := false) (implicitDefEqProofs := false) [bSame, isNo, isAny, isD, truD, cmpD, pln, vw, eqD, tidy_same, hd, exSs, exS, evE, evT, evL, evI, evC, evW, startF, toR_nx]
    | tup l =>
      simp only [sm, Bool.and_eq_true, decide_eq_true_eq] at hd
      obtain ⟨n, rfl⟩ : ∃ m, n = m + 1 := ⟨n - 1, by omega⟩
      have hl := lim_le hd.1
      obtain ⟨x', e⟩ := same_loop (C := csOf T (n + 1)) (f := f) (l := l) (S := S) (fun d hm => by
        obtain ⟨i, hi⟩ := List.mem_iff_getElem?.mp hm
        exact ih d (smL_get hd.2 hi) n S (by omega)) l.length 0 none (by omega)
      have e0 : (((0 : Nat) : Int)) = 0 := rfl
      rw [e0] at e
      simp (dsimp := false) (implicitDefEqProofs := false) [bSame, isNo, isAny, isD, truD, cmpD, pln, vw, eqD, tidy_same, biD, seqOf, rngIt, hl, e, tidy_same, exSs, exS, evE, evT, evL, evI, evC, evW, startF, toR_nx]
    | _ => simp [sm] at hd
end Lg
end
section
set_option maxRecDepth 100000
set_option maxHeartbeats 8000000
/-! comprehensions, data without cells -/
namespace Lg
open Ev
theorem flt_true {α : Type} (l : List α) : l.filter (fun _ => true) = l := List.filter_eq_self.mpr fun _ _ => rfl
theorem lcL_pure {tg : Tg} {fc : Fr → Store → Rs Bool} {fe : Fr → Store → Rs D} {ρ : Fr} {g : Gd} {X : Store} (p : D → Bool) (v : D → D) (hg : ∀ c, gOk g (X ++ [c]) = true) :
    ∀ (l : List D) (acc : List D), (∀ d ∈ l, ∀ c, ∃ ρ1, setT tg d ρ (X ++ [c]) = some ρ1 ∧ fc ρ1 (X ++ [c]) = .ok (p d) (X ++ [c]) ∧ (p d = true → fe ρ1 (X ++ [c]) = .ok (v d) (X ++ [c]))) → acc.length + l.length ≤ LIM →
      lcL tg fc fe ρ g X.length l (X ++ [.lst acc]) = .ok () (X ++ [.lst (acc ++ (l.filter p).map v)])
  | [], acc, _, _ => by simp [lcL, hg]
  | d :: l, acc, h, hl => by
    obtain ⟨ρ1, h1, h2, h3⟩ := h d List.mem_cons_self (.lst acc)
    simp only [List.length_cons] at hl
    have h' : ∀ d ∈ l, ∀ c, ∃ ρ1, setT tg d ρ (X ++ [c]) = some ρ1 ∧ fc ρ1 (X ++ [c]) = .ok (p d) (X ++ [c]) ∧ (p d = true → fe ρ1 (X ++ [c]) = .ok (v d) (X ++ [c])) := fun d hd => h d (List.mem_cons_of_mem _ hd)
    simp only [lcL, hg, if_true, h1, h2, th_ok]
    cases e : p d with
    | false =>
      simp only [Bool.false_eq_true, if_false]
      rw [lcL_pure p v hg l acc h' (by omega)]
      simp [e]
    | true =>
      simp only [if_true, h3 e, th_ok]
      simp only [List.getElem?_append_right (Nat.le_refl _), Nat.sub_self, List.getElem?_cons_zero]
      rw [if_pos (by omega)]
      rw [show (X ++ [Cell.lst acc]).set X.length (.lst (acc ++ [v d])) = X ++ [Cell.lst (acc ++ [v d])] by simp]
      rw [lcL_pure p v hg l (acc ++ [v d]) h' (by simp; omega)]
      simp [e]
theorem cut_self (S : Store) (c : Cell) : cutOk S (S ++ [c]) = true := by simp [cutOk]
theorem lcE_pure {S : Store} {l : List D} (hb : belowL S.length l = true) : lcE false S (S ++ [.lst l]) = .ok (.lst l) S := by
  simp [lcE, hb, cut_self]
/-- a comprehension that changes nothing -/
theorem lc_flt {C : Cs} {own : List Nat} {tg : Tg} {it : Iter} {c : Exo} {e : Ex} {ρ : Fr} {S : Store} {l : List D} {g : Gd} (p : D → Bool) (v : D → D)
    (hw : evW C it ρ S = .ok (l, g) S) (hg : ∀ c, gOk g (S ++ [c]) = true)
    (h : ∀ d ∈ l, ∀ x, ∃ ρ1, setT tg d (wipe ρ own) (S ++ [x]) = some ρ1 ∧ evC C c ρ1 (S ++ [x]) = .ok (p d) (S ++ [x]) ∧ (p d = true → evE C e ρ1 (S ++ [x]) = .ok (v d) (S ++ [x])))
    (hl : l.length ≤ LIM) (hb : belowL S.length ((l.filter p).map v) = true) : evE C (.lc false own tg it c e) ρ S = .ok (.lst ((l.filter p).map v)) S := by
  simp only [evE, hw, th_ok]
  rw [lcL_pure (fc := fun ρ S => evC C c ρ S) (fe := fun ρ S => evE C e ρ S) p v hg l [] h (by simpa using hl)]
  simp only [Rs.nox, th_ok, List.nil_append]
  exact lcE_pure hb
theorem lc_map {C : Cs} {own : List Nat} {tg : Tg} {it : Iter} {e : Ex} {ρ : Fr} {S : Store} {l : List D} {g : Gd} (v : D → D)
    (hw : evW C it ρ S = .ok (l, g) S) (hg : ∀ c, gOk g (S ++ [c]) = true)
    (h : ∀ d ∈ l, ∀ x, ∃ ρ1, setT tg d (wipe ρ own) (S ++ [x]) = some ρ1 ∧ evE C e ρ1 (S ++ [x]) = .ok (v d) (S ++ [x]))
    (hl : l.length ≤ LIM) (hb : belowL S.length (l.map v) = true) : evE C (.lc false own tg it .no e) ρ S = .ok (.lst (l.map v)) S := by
  have q := lc_flt (C := C) (own := own) (tg := tg) (it := it) (c := .no) (e := e) (fun _ => true) v hw hg (fun d hd x => by
    obtain ⟨ρ1, h1, h2⟩ := h d hd x
    exact ⟨ρ1, h1, by simp [evC], fun _ => h2⟩) hl (by rw [flt_true]; exact hb)
  rw [flt_true] at q
  exact q
/-- two generators -/
theorem lcL2_pure {tg tg2 : Tg} {fc fc2 : Fr → Store → Rs Bool} {fw : Fr → Store → Rs (List D × Gd)} {fe : Fr → Store → Rs D} {ρ : Fr} {g : Gd} {X : Store} (w : D → List D) (v : D → D → D) (hg : ∀ c, gOk g (X ++ [c]) = true) :
    ∀ (l : List D) (acc : List D), (∀ d ∈ l, ∀ c, ∃ ρ1 g1, setT tg d ρ (X ++ [c]) = some ρ1 ∧ fc ρ1 (X ++ [c]) = .ok true (X ++ [c]) ∧ fw ρ1 (X ++ [c]) = .ok (w d, g1) (X ++ [c]) ∧ (∀ c, gOk g1 (X ++ [c]) = true) ∧
        ∀ x ∈ w d, ∀ c, ∃ ρ2, setT tg2 x (wipe ρ1 (tgIx tg2)) (X ++ [c]) = some ρ2 ∧ fc2 ρ2 (X ++ [c]) = .ok true (X ++ [c]) ∧ fe ρ2 (X ++ [c]) = .ok (v d x) (X ++ [c])) → acc.length + (l.map fun d => (w d).length).sum ≤ LIM →
      lcL2 tg fc fw tg2 fc2 fe ρ g X.length l (X ++ [.lst acc]) = .ok () (X ++ [.lst (acc ++ l.flatMap fun d => (w d).map (v d))])
  | [], acc, _, _ => by simp [lcL2, hg]
  | d :: l, acc, h, hl => by
    obtain ⟨ρ1, g1, h1, h2, h3, h4, h5⟩ := h d List.mem_cons_self (.lst acc)
    simp only [List.map_cons, List.sum_cons] at hl
    simp only [lcL2, hg, if_true, h1, h2, h3, th_ok]
    rw [lcL_pure (fun _ => true) (v d) h4 (w d) acc (fun x hx c => by
      obtain ⟨ρ2, k1, k2, k3⟩ := h5 x hx c
      exact ⟨ρ2, k1, k2, fun _ => k3⟩) (by omega)]
    simp only [th_ok, flt_true]
    rw [lcL2_pure w v hg l _ (fun d hd => h d (List.mem_cons_of_mem _ hd)) (by simp; omega)]
    simp
theorem lc2_map {C : Cs} {own : List Nat} {tg tg2 : Tg} {it it2 : Iter} {e : Ex} {ρ : Fr} {S : Store} {l : List D} {g : Gd} (w : D → List D) (v : D → D → D)
    (hw : evW C it ρ S = .ok (l, g) S) (hg : ∀ c, gOk g (S ++ [c]) = true)
    (h : ∀ d ∈ l, ∀ c, ∃ ρ1 g1, setT tg d (wipe ρ own) (S ++ [c]) = some ρ1 ∧ evW C it2 ρ1 (S ++ [c]) = .ok (w d, g1) (S ++ [c]) ∧ (∀ c, gOk g1 (S ++ [c]) = true) ∧
        ∀ x ∈ w d, ∀ c, ∃ ρ2, setT tg2 x (wipe ρ1 (tgIx tg2)) (S ++ [c]) = some ρ2 ∧ evE C e ρ2 (S ++ [c]) = .ok (v d x) (S ++ [c]))
    (hl : (l.map fun d => (w d).length).sum ≤ LIM) (hb : belowL S.length (l.flatMap fun d => (w d).map (v d)) = true) : evE C (.lc2 false own tg it .no tg2 it2 .no e) ρ S = .ok (.lst (l.flatMap fun d => (w d).map (v d))) S := by
  simp only [evE, hw, th_ok]
  rw [lcL2_pure (fc := fun ρ S => evC C .no ρ S) (fw := fun ρ S => evW C it2 ρ S) (fc2 := fun ρ S => evC C .no ρ S) (fe := fun ρ S => evE C e ρ S) w v hg l [] (fun d hd c => by
    obtain ⟨ρ1, g1, h1, h2, h3, h4⟩ := h d hd c
    refine ⟨ρ1, g1, h1, by simp [evC], h2, h3, fun x hx c => ?_⟩
    obtain ⟨ρ2, k1, k2⟩ := h4 x hx c
    exact ⟨ρ2, k1, by simp [evC], k2⟩) (by simpa using hl)]
  simp only [Rs.nox, th_ok, List.nil_append]
  exact lcE_pure hb
/-! plain data -/
mutual
theorem pln_below {n : Nat} : ∀ (k : Nat) (d : D), pln k d = true → below n d = true
  | _, .non, _ => rfl
  | _, .bl _, _ => rfl
  | _, .int _, _ => rfl
  | _, .str _, _ => rfl
  | 0, .tup _, h => by simp [pln] at h
  | 0, .lst _, h => by simp [pln] at h
  | k + 1, .tup l, h => by simp only [pln] at h; simp only [below]; exact plnL_below k l h
  | k + 1, .lst l, h => by simp only [pln] at h; simp only [below]; exact plnL_below k l h
  | _, .ref _, h => by simp [pln] at h
  | _, .obj _ _, h => by simp [pln] at h
theorem plnL_below {n : Nat} : ∀ (k : Nat) (l : List D), plnL k l = true → belowL n l = true
  | _, [], _ => rfl
  | k, d :: l, h => by
    simp only [plnL, Bool.and_eq_true] at h
    simp only [belowL, Bool.and_eq_true]
    exact ⟨pln_below k d h.1, plnL_below k l h.2⟩
end
theorem plnL_of {k : Nat} {l : List D} : (∀ d ∈ l, pln k d = true) → plnL k l = true := by
  induction l with
  | nil => intro _; rfl
  | cons d l ih => intro h; simp [plnL, h d List.mem_cons_self, ih fun x hx => h x (List.mem_cons_of_mem _ hx)]
theorem belowL_of {n : Nat} {l : List D} : (∀ d ∈ l, below n d = true) → belowL n l = true := by
  induction l with
  | nil => intro _; rfl
  | cons d l ih => intro h; simp [belowL, h d List.mem_cons_self, ih fun x hx => h x (List.mem_cons_of_mem _ hx)]
@[simp] theorem plnL_ints (k : Nat) (l : List Int) : plnL k (l.map .int) = true := plnL_of fun d hd => by
  obtain ⟨i, _, rfl⟩ := List.mem_map.mp hd
  cases k <;> rfl
@[simp] theorem belowL_ints (k : Nat) (l : List Int) : belowL k (l.map .int) = true := plnL_below 0 _ (plnL_ints 0 l)
@[simp] theorem pln_tupI (k : Nat) (l : List Int) : pln (k + 1) (tupI l) = true := by simp [tupI, pln]
@[simp] theorem plnL_tups (k : Nat) (l : List (List Int)) : plnL (k + 1) (l.map tupI) = true := plnL_of fun d hd => by
  obtain ⟨i, _, rfl⟩ := List.mem_map.mp hd
  exact pln_tupI k i
@[simp] theorem below_tupI (k : Nat) (l : List Int) : below k (tupI l) = true := pln_below 1 _ (pln_tupI 0 l)
@[simp] theorem belowL_tups (k : Nat) (l : List (List Int)) : belowL k (l.map tupI) = true := plnL_below 1 _ (plnL_tups 0 l)
@[simp] theorem allInt_ints : ∀ l : List Int, allInt (l.map .int) = some l
  | [] => rfl
  | x :: l => by simp [allInt, allInt_ints l]
theorem allTup_tups : ∀ l : List (List Int), (∀ r ∈ l, r ≠ []) → allTup (l.map tupI) = some l
  | [], _ => rfl
  | r :: l, h => by
    have h1 := allTup_tups l fun x hx => h x (List.mem_cons_of_mem _ hx)
    have h2 := h r List.mem_cons_self
    cases r with
    | nil => exact absurd rfl h2
    | cons x xs =>
      have h3 := allInt_ints (x :: xs)
      simp only [List.map_cons] at h3 h1
      rw [List.map_cons]
      unfold tupI at h1 ⊢
      simp only [List.map_cons, allTup, h3, h1]
theorem allInt_tups {r : List Int} {l : List (List Int)} : allInt ((r :: l).map tupI) = none := by simp [tupI, allInt]
@[simp] theorem eqL_ints : ∀ l r : List Int, eqL (l.map .int) (r.map .int) = decide (l = r)
  | [], [] => by simp [eqL]
  | [], _ :: _ => by simp [eqL]
  | _ :: _, [] => by simp [eqL]
  | x :: l, y :: r => by
    simp only [List.map_cons, eqL, eqD, eqL_ints l r, List.cons.injEq]
    by_cases h : x = y <;> simp [h]
@[simp] theorem eqD_tupI (l r : List Int) : eqD (tupI l) (tupI r) = decide (l = r) := by simp [tupI, eqD]
@[simp] theorem eqL_tups : ∀ l r : List (List Int), eqL (l.map tupI) (r.map tupI) = decide (l = r)
  | [], [] => by simp [eqL]
  | [], _ :: _ => by simp [eqL]
  | _ :: _, [] => by simp [eqL]
  | x :: l, y :: r => by
    simp only [List.map_cons, eqL, eqD_tupI, eqL_tups l r, List.cons.injEq]
    by_cases h : x = y <;> simp [h]
theorem any_ints (l : List Int) (p : Int) : ((l.map D.int).any fun x => eqD x (.int p)) = decide (p ∈ l) := by
  induction l with
  | nil => rfl
  | cons x l ih =>
    simp only [List.map_cons, List.any_cons, ih, eqD, List.mem_cons]
    by_cases h : x = p
    · subst h; simp
    · have : ¬ p = x := fun z => h z.symm
      simp [h, this]
theorem flD_ints (l : List Int) : (l.map D.int).all flD = true := by
  rw [List.all_eq_true]
  intro d hd
  obtain ⟨i, _, rfl⟩ := List.mem_map.mp hd
  rfl
/-- p in a tuple of ints -/
theorem inD_tupI (p : Int) (l : List Int) (S : Store) : inD (.int p) (tupI l) S = some (decide (p ∈ l)) := by
  simp only [inD, tupI, flD_ints, any_ints]
  simp [flD]
theorem inD_lst (p : Int) (l : List Int) (S : Store) : inD (.int p) (.lst (l.map .int)) S = some (decide (p ∈ l)) := by
  simp only [inD, lstOf, vw, plnL_ints, any_ints]
  simp [pln]
theorem upTo_map : ∀ (n : Nat) (i : Int), upTo i n = ((List.range n).map fun k => .int (i + (k : Nat)))
  | 0, _ => rfl
  | n + 1, i => by
    rw [upTo, upTo_map n (i + 1), List.range_succ_eq_map, List.map_cons, List.map_map]
    simp only [List.cons.injEq]
    refine ⟨by simp, List.map_congr_left fun k _ => ?_⟩
    simp only [Function.comp]
    congr 1
    push_cast
    omega
theorem upTo0 (n : Nat) : upTo 0 n = (List.range n).map fun k => .int (k : Nat) := by
  rw [upTo_map]
  exact List.map_congr_left fun k _ => by simp
theorem allBl_map {α : Type} (f : α → Bool) : ∀ l : List α, allBl (l.map fun x => .bl (f x)) = some (l.map f)
  | [] => rfl
  | x :: l => by simp [allBl, allBl_map f l]
theorem band_nat (a b : Nat) : PySem.Builtin.bitAnd (a : Int) (b : Int) = ((a &&& b : Nat) : Int) := by
  unfold PySem.Builtin.bitAnd
  simp
theorem bor_nat (a b : Nat) : PySem.Builtin.bitOr (a : Int) (b : Int) = ((a ||| b : Nat) : Int) := by
  have nn : ∀ z : Int, PySem.Builtin.bitNot (PySem.Builtin.bitNot z) = z := fun z => by
    show -(-z - 1) - 1 = z
    omega
  have h1 : decide (0 ≤ PySem.Builtin.bitNot (a : Int)) = false := decide_eq_false (by show ¬ (0 : Int) ≤ -(a : Int) - 1; omega)
  have h2 : decide (0 ≤ PySem.Builtin.bitNot (b : Int)) = false := decide_eq_false (by show ¬ (0 : Int) ≤ -(b : Int) - 1; omega)
  unfold PySem.Builtin.bitOr PySem.Builtin.bitAnd
  simp only [h1, h2, nn, Int.toNat_natCast]
theorem bit_nat (m p : Nat) : PySem.Builtin.bitAnd ((m : Int) / 2 ^ p) 1 = if m.testBit p = true then 1 else 0 := by
  have e : (m : Int) / 2 ^ p = ((m / 2 ^ p : Nat) : Int) := by push_cast; rfl
  rw [e, show (1 : Int) = ((1 : Nat) : Int) from rfl, band_nat, Nat.and_one_is_mod, Nat.testBit_eq_decide_div_mod_eq]
  have := Nat.mod_lt (m / 2 ^ p) (show 0 < 2 by decide)
  by_cases h : m / 2 ^ p % 2 = 1
  · simp [h]
  · have h0 : m / 2 ^ p % 2 = 0 := by omega
    simp [h0]
theorem gOk_app (g : Gd) (S : Store) (h : g = []) (c : Cell) : gOk g (S ++ [c]) = true := by subst h; exact gOk_nil _
end Lg
end
section
set_option maxRecDepth 100000
set_option maxHeartbeats 8000000
/-! lists of numbers as data -/
namespace Lg
open Ev
theorem pln_int (k : Nat) (i : Int) : pln k (.int i) = true := by cases k <;> rfl
def ndl (l : List Nat) : List D := l.map fun p => .int (p : Nat)
theorem ndl_len (l : List Nat) : (ndl l).length = l.length := by simp [ndl]
theorem ndl_get {l : List Nat} {k : Nat} (h : k < l.length) : (ndl l)[k]? = some (.int (l.getD k 0 : Nat)) := by simp [ndl, h]
theorem ndl_pln (k : Nat) (l : List Nat) : plnL k (ndl l) = true := plnL_of fun d hd => by
  obtain ⟨i, _, rfl⟩ := List.mem_map.mp hd
  exact pln_int _ _
theorem ndl_below (n : Nat) (l : List Nat) : belowL n (ndl l) = true := plnL_below 0 _ (ndl_pln 0 l)
theorem ndl_eq : ∀ a b : List Nat, eqL (ndl a) (ndl b) = decide (a = b)
  | [], [] => by simp [ndl, eqL]
  | [], _ :: _ => by simp [ndl, eqL]
  | _ :: _, [] => by simp [ndl, eqL]
  | x :: l, y :: r => by
    have := ndl_eq l r
    unfold ndl at this ⊢
    simp only [List.map_cons, eqL, eqD, this, List.cons.injEq]
    by_cases h : x = y
    · subst h; simp
    · have : ((x : Int) == (y : Int)) = false := beq_eq_false_iff_ne.mpr (by omega)
      simp [h, this]
theorem ndl_take (l : List Nat) (a : Nat) : (ndl l).take a = ndl (l.take a) := by unfold ndl; rw [List.map_take]
theorem ndl_drop (l : List Nat) (a : Nat) : (ndl l).drop a = ndl (l.drop a) := by unfold ndl; rw [List.map_drop]
theorem ndl_cat (l m : List Nat) : ndl l ++ ndl m = ndl (l ++ m) := by unfold ndl; rw [List.map_append]
theorem ndl_one (m : Nat) : [D.int (m : Nat)] = ndl [m] := rfl
theorem sumI_nd (l : List Nat) : sumI (l.map fun m => ((m : Nat) : Int)) = ((l.sum : Nat) : Int) := by
  induction l with
  | nil => rfl
  | cons a l ih => simp only [List.map_cons, sumI, ih, List.sum_cons]; push_cast; rfl
theorem allInt_ndl (l : List Nat) : allInt (ndl l) = some (l.map fun m => ((m : Nat) : Int)) := by
  have := allInt_ints (l.map fun m => ((m : Nat) : Int))
  rw [List.map_map] at this
  exact this
theorem ndl_app (l : List Nat) (m : Nat) : ndl (l ++ [m]) = ndl l ++ [D.int (m : Nat)] := by simp [ndl]
def dN (f : Nat → Nat) : D → D
  | .int i => .int (f i.toNat : Nat)
  | _ => .non
theorem mapDN (f : Nat → Nat) (l : List Nat) : (ndl l).map (dN f) = ndl (l.map f) := by
  unfold ndl
  rw [List.map_map, List.map_map]
  rfl
theorem cut_lo {α : Type} (l : List α) (r : Nat) (h : r ≤ l.length) : cut l none (some (r : Int)) = l.take r := by
  unfold cut sIx
  have : ¬ ((r : Int) < 0) := by omega
  simp only [this, if_false, List.drop_zero, Nat.sub_zero]
  congr 1
  omega
theorem cut_hi {α : Type} (l : List α) (r : Nat) : cut l (some (r : Int)) none = l.drop r := by
  unfold cut sIx
  have : ¬ ((r : Int) < 0) := by omega
  simp only [this, if_false, Int.toNat_natCast]
  rw [List.take_of_length_le (by rw [List.length_drop]; omega)]
  rcases Nat.lt_or_ge r l.length with h | h
  · rw [Nat.min_eq_left (by omega)]
  · rw [Nat.min_eq_right h, List.drop_eq_nil_of_le (Nat.le_refl _), List.drop_eq_nil_of_le h]
theorem take_drop_perm {α : Type} (l : List α) (r : Nat) (h : r < l.length) : (l[r] :: (l.take r ++ l.drop (r + 1))).Perm l := by
  have e : l.take r ++ l[r] :: l.drop (r + 1) = l := by rw [← List.drop_eq_getElem_cons h, List.take_append_drop]
  have := (List.perm_middle (a := l[r]) (l₁ := l.take r) (l₂ := l.drop (r + 1))).symm
  rw [e] at this
  exact this
theorem bel_mono {n : Nat} : (∀ d : D, below 0 d = true → below n d = true) ∧ ∀ l : List D, belowL 0 l = true → belowL n l = true := by
  have main : ∀ k : Nat, (∀ d : D, sizeOf d ≤ k → below 0 d = true → below n d = true) ∧ ∀ l : List D, sizeOf l ≤ k → belowL 0 l = true → belowL n l = true := by
    intro k
    induction k with
    | zero =>
      refine ⟨fun d hk => ?_, fun l hk => ?_⟩
      · cases d <;> simp at hk
      · cases l <;> simp at hk
    | succ k ih =>
      refine ⟨fun d hk h => ?_, fun l hk h => ?_⟩
      · cases d with
        | ref i => simp [below] at h
        | tup l => simp only [below] at h ⊢; simp at hk; exact ih.2 l (by omega) h
        | lst l => simp only [below] at h ⊢; simp at hk; exact ih.2 l (by omega) h
        | obj c l => simp only [below] at h ⊢; simp at hk; exact ih.2 l (by omega) h
        | _ => rfl
      · cases l with
        | nil => rfl
        | cons d l =>
          simp only [belowL, Bool.and_eq_true] at h ⊢
          simp at hk
          exact ⟨ih.1 d (by omega) h.1, ih.2 l (by omega) h.2⟩
  exact ⟨fun d h => (main _).1 d (Nat.le_refl _) h, fun l h => (main _).2 l (Nat.le_refl _) h⟩
theorem belC_mono {n : Nat} {c : Cell} (h : belowC 0 c = true) : belowC n c = true := by
  cases c <;> exact bel_mono.2 _ h
theorem nd_below (l : List Nat) : belowL 0 (l.map fun p => D.int (p : Nat)) = true := belowL_of fun d hd => by
  obtain ⟨i, _, rfl⟩ := List.mem_map.mp hd
  rfl
theorem allBl_true (l : List D) : allBl (l.map fun _ => D.bl true) = some (l.map fun _ => true) := allBl_map (fun _ => true) l
theorem all_true (l : List D) : (l.map fun _ => true).all id = true := by simp
theorem adj {α : Type} {R : α → α → Prop} {l : List α} (h : l.Pairwise R) {k : Nat} (hk : k + 1 < l.length) : R (l[k]'(by omega)) l[k + 1] := List.pairwise_iff_getElem.mp h k (k + 1) _ _ (by omega)
theorem rng1 {m : Nat} (hm : m ≤ 1000) (S : Store) : rngIt [.int ((m : Int) - 1)] S = .ok (upTo 0 (m - 1), []) S := by
  have lim : (m : Int) - 1 ≤ LIM ∧ -(LIM : Int) ≤ (m : Int) - 1 := by unfold LIM; omega
  have e : ((m : Int) - 1).toNat = m - 1 := by omega
  simp [rngIt, lim, e]
theorem filt_map (p : Int → Bool) (l : List Int) (pd : D → Bool) (h : ∀ i, pd (.int i) = p i) : ((l.map D.int).filter pd).map (fun d => d) = (l.filter p).map .int := by
  rw [List.map_id', List.filter_map]
  congr 2
  funext i
  exact h i
def dI (f : Int → Bool) : D → Bool
  | .int i => f i
  | _ => false
theorem trues (l : List D) : ((l.map fun _ => D.bl true).any fun x => eqD x (.bl false)) = false := by
  induction l with
  | nil => rfl
  | cons d l ih => simp only [List.map_cons, List.any_cons, ih]; rfl
theorem trues_pln (k : Nat) (l : List D) : plnL k (l.map fun _ => D.bl true) = true := plnL_of fun d hd => by
  obtain ⟨i, _, rfl⟩ := List.mem_map.mp hd
  cases k <;> rfl
theorem trues_below (n : Nat) (l : List D) : belowL n (l.map fun _ => D.bl true) = true := plnL_below 0 _ (trues_pln 0 l)
end Lg
end
section
set_option maxRecDepth 100000
set_option maxHeartbeats 8000000
/-! two rows of amounts spent against each other: overlaps of stretches -/
namespace Lg
open Ev
def pre (l : List Nat) (k : Nat) : Nat := (l.take k).sum
theorem pre_zero (l : List Nat) : pre l 0 = 0 := by simp [pre]
theorem pre_succ {l : List Nat} {k : Nat} (h : k < l.length) : pre l (k + 1) = pre l k + l.getD k 0 := by
  unfold pre
  rw [List.take_succ, List.sum_append_nat]
  simp [h]
theorem pre_ge {l : List Nat} {k : Nat} (h : l.length ≤ k) : pre l k = l.sum := by
  unfold pre
  rw [List.take_of_length_le h]
theorem pre_step (l : List Nat) (k : Nat) : pre l k ≤ pre l (k + 1) := by
  rcases Nat.lt_or_ge k l.length with h | h
  · rw [pre_succ h]; omega
  · rw [pre_ge h, pre_ge (by omega)]; exact Nat.le_refl _
theorem pre_mono {l : List Nat} {a b : Nat} (h : a ≤ b) : pre l a ≤ pre l b := by
  induction b with
  | zero =>
    have : a = 0 := by omega
    subst this
    exact Nat.le_refl _
  | succ b ih =>
    rcases Nat.lt_or_ge a (b + 1) with h1 | h1
    · exact Nat.le_trans (ih (by omega)) (pre_step l b)
    · have : a = b + 1 := by omega
      subst this
      exact Nat.le_refl _
theorem pre_le (l : List Nat) (k : Nat) : pre l k ≤ l.sum := by
  have := pre_mono (l := l) (show k ≤ max k l.length by omega)
  rw [pre_ge (k := max k l.length) (by omega)] at this
  exact this
def rem (l : List Nat) (t : Nat) : List Nat := (List.range l.length).map fun k => pre l (k + 1) - max (pre l k) t
def ov (l r : List Nat) (t i j : Nat) : Nat := min (min (pre l (i + 1)) (pre r (j + 1))) t - max (pre l i) (pre r j)
def tab (l r : List Nat) (t : Nat) : List (List Nat) := (List.range l.length).map fun i => (List.range r.length).map fun j => ov l r t i j
theorem rem_len (l : List Nat) (t : Nat) : (rem l t).length = l.length := by simp [rem]
theorem tab_len (l r : List Nat) (t : Nat) : (tab l r t).length = l.length := by simp [tab]
theorem rem_get {l : List Nat} {t k : Nat} (h : k < l.length) : (rem l t).getD k 0 = pre l (k + 1) - max (pre l k) t := by simp [rem, h]
theorem rem_zero (l : List Nat) : rem l 0 = l := by
  apply List.ext_getElem
  · simp [rem]
  · intro k h1 h2
    have := pre_succ h2
    simp [rem]
    rw [this]
    simp [h2]
theorem tab_zero (l r : List Nat) : tab l r 0 = (List.range l.length).map fun _ => (List.range r.length).map fun _ => 0 := by
  unfold tab
  refine List.map_congr_left fun i _ => List.map_congr_left fun j _ => ?_
  unfold ov
  omega
/-- where both stand -/
structure At (l r : List Nat) (t i j : Nat) : Prop where
  hi : i < l.length
  hj : j < r.length
  a1 : pre l i ≤ t
  a2 : t ≤ pre l (i + 1)
  b1 : pre r j ≤ t
  b2 : t ≤ pre r (j + 1)
def nxt (l r : List Nat) (i j : Nat) : Nat := min (pre l (i + 1)) (pre r (j + 1))
section
variable {l r : List Nat} {t i j : Nat}
theorem At.left (h : At l r t i j) : (rem l t).getD i 0 = pre l (i + 1) - t := by
  rw [rem_get h.hi]
  have := h.a1
  omega
theorem At.right (h : At l r t i j) : (rem r t).getD j 0 = pre r (j + 1) - t := by
  rw [rem_get h.hj]
  have := h.b1
  omega
theorem At.amount (h : At l r t i j) : min ((rem l t).getD i 0) ((rem r t).getD j 0) = nxt l r i j - t := by
  rw [h.left, h.right]
  have := h.a2
  have := h.b2
  unfold nxt
  omega
theorem rem_next {l : List Nat} {t t' i : Nat} (hi : i < l.length) (a1 : pre l i ≤ t) (h1 : t ≤ t') (h2 : t' ≤ pre l (i + 1)) : rem l t' = (rem l t).set i ((rem l t).getD i 0 - (t' - t)) := by
  apply List.ext_getElem
  · simp [rem]
  · intro k k1 k2
    rw [rem_len] at k1
    rw [List.getElem_set]
    split
    · rename_i e
      subst e
      rw [rem_get hi]
      simp [rem]
      omega
    · rename_i e
      simp [rem]
      rcases Nat.lt_or_ge k i with h | h
      · have := pre_mono (l := l) (show k + 1 ≤ i by omega)
        omega
      · have := pre_mono (l := l) (show i + 1 ≤ k by omega)
        omega
theorem At.next_l (h : At l r t i j) : rem l (nxt l r i j) = (rem l t).set i ((rem l t).getD i 0 - (nxt l r i j - t)) := by
  have := h.a2
  have := h.b2
  exact rem_next h.hi h.a1 (by unfold nxt; omega) (by unfold nxt; omega)
theorem At.next_r (h : At l r t i j) : rem r (nxt l r i j) = (rem r t).set j ((rem r t).getD j 0 - (nxt l r i j - t)) := by
  have := h.a2
  have := h.b2
  exact rem_next h.hj h.b1 (by unfold nxt; omega) (by unfold nxt; omega)
theorem At.next_t (h : At l r t i j) : tab l r (nxt l r i j) = (tab l r t).set i (((tab l r t).getD i []).set j (ov l r t i j + (nxt l r i j - t))) := by
  obtain ⟨hi, hj, a1, a2, b1, b2⟩ := h
  have hn : nxt l r i j = min (pre l (i + 1)) (pre r (j + 1)) := rfl
  apply List.ext_getElem
  · simp [tab]
  · intro k k1 k2
    rw [tab_len] at k1
    rw [List.getElem_set]
    split
    · rename_i e
      subst e
      have gi : (tab l r t).getD i [] = (List.range r.length).map fun j => ov l r t i j := by simp [tab, hi]
      rw [gi]
      simp only [tab, List.getElem_map, List.getElem_range]
      apply List.ext_getElem
      · simp
      · intro m m1 m2
        rw [List.getElem_set]
        simp only [List.getElem_map, List.getElem_range]
        split
        · rename_i e
          subst e
          unfold ov
          omega
        · rename_i e
          unfold ov
          rcases Nat.lt_or_ge m j with h | h
          · have := pre_mono (l := r) (show m + 1 ≤ j by omega)
            omega
          · have := pre_mono (l := r) (show j + 1 ≤ m by omega)
            omega
    · rename_i e
      simp only [tab, List.getElem_map, List.getElem_range]
      refine List.map_congr_left fun m _ => ?_
      unfold ov
      rcases Nat.lt_or_ge k i with h | h
      · have := pre_mono (l := l) (show k + 1 ≤ i by omega)
        omega
      · have := pre_mono (l := l) (show i + 1 ≤ k by omega)
        omega
end
/-- the whole table -/
def full (l r : List Nat) : List (List Nat) := tab l r l.sum
theorem ov_full {l r : List Nat} (i j : Nat) : ov l r l.sum i j = min (pre l (i + 1)) (pre r (j + 1)) - max (pre l i) (pre r j) := by
  unfold ov
  have := pre_le l (i + 1)
  omega
theorem row_part (l r : List Nat) (i : Nat) : ∀ n, ((List.range n).map fun j => ov l r l.sum i j).sum = min (pre l (i + 1)) (pre r n) - pre l i
  | 0 => by simp [pre_zero]
  | n + 1 => by
    rw [List.range_succ, List.map_append, List.sum_append_nat, row_part l r i n, List.map_singleton, List.sum_singleton, ov_full]
    have := pre_step l i
    have := pre_step r n
    omega
theorem col_part (l r : List Nat) (j : Nat) : ∀ n, ((List.range n).map fun i => ov l r l.sum i j).sum = min (pre r (j + 1)) (pre l n) - pre r j
  | 0 => by simp [pre_zero]
  | n + 1 => by
    rw [List.range_succ, List.map_append, List.sum_append_nat, col_part l r j n, List.map_singleton, List.sum_singleton, ov_full]
    have := pre_step r j
    have := pre_step l n
    omega
theorem row_sum {l r : List Nat} (h : l.sum = r.sum) {i : Nat} (hi : i < l.length) : ((full l r).getD i []).sum = l.getD i 0 := by
  have gi : (full l r).getD i [] = (List.range r.length).map fun j => ov l r l.sum i j := by simp [full, tab, hi]
  rw [gi, row_part, pre_ge (l := r) (Nat.le_refl _), ← h]
  have := pre_le l (i + 1)
  have := pre_succ hi
  omega
theorem col_sum {l r : List Nat} (h : l.sum = r.sum) {j : Nat} (hj : j < r.length) : ((full l r).map fun line => line.getD j 0).sum = r.getD j 0 := by
  have e : (full l r).map (fun line => line.getD j 0) = (List.range l.length).map fun i => ov l r l.sum i j := by
    unfold full tab
    rw [List.map_map]
    refine List.map_congr_left fun i _ => ?_
    simp [hj]
  rw [e, col_part, pre_ge (l := l) (Nat.le_refl _), h]
  have := pre_le r (j + 1)
  have := pre_succ hj
  omega
theorem full_row_len {l r : List Nat} : ∀ line ∈ full l r, line.length = r.length := by
  intro line h
  obtain ⟨i, _, rfl⟩ := List.mem_map.mp h
  simp
theorem full_sum {l r : List Nat} (h : l.sum = r.sum) : ((full l r).map List.sum).sum = l.sum := by
  have : (full l r).map List.sum = l := by
    apply List.ext_getElem
    · simp [full, tab]
    · intro i h1 h2
      have := row_sum h h2
      simp [full, tab] at this ⊢
      simp [h2] at this
      exact this
  rw [this]
end Lg
end
section
set_option maxRecDepth 100000
set_option maxHeartbeats 0
namespace Lw
open PySem PySem.Spec PyProof.Rows L2 He Ev
def top (i : Nat) : Stmt := PySem.Challenge.pw_piecerealm_k42_corners_filled.main.body.getD i (.Pass ⟨0, 0, 0, 0⟩)
def b0t0 : Ex := (.bl true)
def b0l0 : Sts := (.cons .pas
    .nil)
def b0 : Sts := (.cons (.whl b0t0
    b0l0)
    .nil)
def b1 : Sts := (.cons (.ret (.and (.isI (.var 0) [.b .int] false) (.not (.isI (.var 0) [.b .bool] false))))
    .nil)
def b2 : Sts := (.cons (.ret (.and (.call 1 (.cons (.var 0) .nil)) (.cmp .ge (.var 0) (.int 0))))
    .nil)
def b3 : Sts := (.cons (.ret (.and (.isI (.var 0) [.b .tuple] false) (.cmp .eq (.bi .len false (.cons (.var 0) .nil)) (.int 2))))
    .nil)
def b4e0 : Ex := (.call 1 (.cons (.var 1) .nil))
def b4 : Sts := (.cons (.ret (.and (.isI (.var 0) [.b .tuple] false) (.bi .all false (.cons (.lc false [1] (.nm 1) (.seq (.var 0)) .no b4e0) .nil))))
    .nil)
def b5e0 : Ex := (.call 2 (.cons (.var 1) .nil))
def b5 : Sts := (.cons (.ret (.and (.isI (.var 0) [.b .tuple] false) (.bi .all false (.cons (.lc false [1] (.nm 1) (.seq (.var 0)) .no b5e0) .nil))))
    .nil)
def b6t0 : Ex := (.and (.cmp .lt (.var 3) (.bi .len false (.cons (.var 5) .nil))) (.cmp .lt (.var 4) (.bi .len false (.cons (.var 6) .nil))))
def b6l0 : Sts := (.cons (.asg 7 (.bi .min false (.cons (.idx (.var 5) (.var 3)) (.cons (.idx (.var 6) (.var 4)) .nil))))
    (.cons (.augI (.var 5) (.var 3) true (.var 7))
    (.cons (.augI (.var 6) (.var 4) true (.var 7))
    (.cons (.ex (.bm .append (.var 2) (.cons (.tup (.cons (.var 3) (.cons (.var 4) (.cons (.var 7) .nil)))) .nil)))
    (.cons (.ife (.cmp .eq (.idx (.var 5) (.var 3)) (.int 0))
    (.cons (.augN 3 false (.int 1))
    .nil)
    (.cons (.augN 4 false (.int 1))
    .nil))
    .nil)))))
def b6 : Sts := (.cons (.swp 5 6 (.bi .list true (.cons (.var 0) .nil)) (.bi .list true (.cons (.var 1) .nil)))
    (.cons (.asg 2 (.lst true .nil))
    (.cons (.asg2 3 4 (.int 0))
    (.cons (.whl b6t0
    b6l0)
    (.cons (.ret (.var 2))
    .nil)))))
def b7l0 : Sts := (.cons (.augI (.idx (.var 2) (.var 3)) (.var 4) false (.var 5))
    .nil)
def b7e0 : Ex := (.int 0)
def b7e1 : Ex := (.lc true [6] (.nm 6) (.seq (.var 1)) .no b7e0)
def b7 : Sts := (.cons (.asg 2 (.lc false [6] (.nm 6) (.seq (.var 0)) .no b7e1))
    (.cons (.forr (.tp [3, 4, 5]) (.seq (.call 6 (.cons (.var 0) (.cons (.var 1) .nil))))
    b7l0)
    (.cons (.ret (.var 2))
    .nil)))
def b8e0 : Ex := (.bi .tuple false (.cons (.var 1) .nil))
def b8 : Sts := (.cons (.ret (.bi .tuple false (.cons (.lc false [1] (.nm 1) (.seq (.var 0)) .no b8e0) .nil)))
    .nil)
def b9 : Sts := (.cons (.asg 3 (.mak true 0 (.cons (.var 0) (.cons (.var 1) (.cons (.var 2) .nil)))))
    (.cons (.ex (.mth (.var 3) 12 .nil))
    (.cons (.ret (.var 3))
    .nil)))
def b10 : Sts := (.cons (.ife (.not (.call 5 (.cons (.var 0) .nil)))
    (.cons .nev
    .nil)
    .nil)
    (.cons (.ife (.not (.call 5 (.cons (.var 1) .nil)))
    (.cons .nev
    .nil)
    .nil)
    (.cons (.ife (.cmp .ne (.bi .sum false (.cons (.var 0) .nil)) (.bi .sum false (.cons (.var 1) .nil)))
    (.cons .nev
    .nil)
    .nil)
    .nil)))
def b11e0 : Ex := (.and (.call 4 (.cons (.var 3) .nil)) (.cmp .eq (.bi .len false (.cons (.var 3) .nil)) (.var 2)))
def b11 : Sts := (.cons (.ife (.or (.not (.isI (.var 0) [.b .tuple] false)) (.cmp .ne (.bi .len false (.cons (.var 0) .nil)) (.var 1)))
    (.cons (.ret (.bl false))
    .nil)
    .nil)
    (.cons (.ret (.bi .all false (.cons (.lc false [3] (.nm 3) (.seq (.var 0)) .no b11e0) .nil)))
    .nil))
def b12 : Sts := (.cons (.ex (.call 10 (.cons (.var 0) (.cons (.var 1) .nil))))
    (.cons (.ife (.not (.call 11 (.cons (.var 2) (.cons (.bi .len false (.cons (.var 0) .nil)) (.cons (.bi .len false (.cons (.var 1) .nil)) .nil)))))
    (.cons .nev
    .nil)
    .nil)
    .nil))
def b13 : Sts := (.cons (.ex (.call 10 (.cons (.var 0) (.cons (.var 1) .nil))))
    (.cons (.ret (.call 8 (.cons (.call 7 (.cons (.var 0) (.cons (.var 1) .nil))) .nil)))
    .nil))
def b14 : Sts := (.cons (.ex (.call 12 (.cons (.var 0) (.cons (.var 1) (.cons (.var 2) .nil)))))
    (.cons (.asg 3 (.call 9 (.cons (.var 0) (.cons (.var 1) (.cons (.var 2) .nil)))))
    (.cons (.ret (.tup (.cons (.mth (.var 3) 13 .nil) (.cons (.call 8 (.cons (.att (.var 3) 5) .nil)) .nil))))
    .nil)))
def b15e0 : Ex := (.idx (.var 3) (.var 5))
def b15l0 : Sts := (.cons (.ife (.cmp .ne (.bi .sum false (.cons (.lc false [3] (.nm 3) (.seq (.var 0)) .no b15e0) .nil)) (.var 4))
    (.cons (.ret (.bl false))
    .nil)
    .nil)
    .nil)
def b15l1 : Sts := (.cons (.ife (.or (.not (.call 5 (.cons (.var 3) .nil))) (.or (.cmp .ne (.bi .len false (.cons (.var 3) .nil)) (.bi .len false (.cons (.var 2) .nil))) (.cmp .ne (.bi .sum false (.cons (.var 3) .nil)) (.var 4))))
    (.cons (.ret (.bl false))
    .nil)
    .nil)
    .nil)
def b15 : Sts := (.cons (.ife (.or (.not (.isI (.var 0) [.b .tuple] false)) (.cmp .ne (.bi .len false (.cons (.var 0) .nil)) (.bi .len false (.cons (.var 1) .nil))))
    (.cons (.ret (.bl false))
    .nil)
    .nil)
    (.cons (.forr (.tp [3, 4]) (.zip (.var 0) (.var 1))
    b15l1)
    (.cons (.forr (.tp [5, 4]) (.enm (.var 2))
    b15l0)
    (.cons (.ret (.bl true))
    .nil))))
def b16e0 : Ex := (.bin .mul false (.var 5) (.var 6))
def b16l0 : Sts := (.cons (.augN 2 false (.bi .sum false (.cons (.lc false [5, 6] (.tp [5, 6]) (.zip (.var 4) (.var 3)) .no b16e0) .nil)))
    .nil)
def b16 : Sts := (.cons (.asg 2 (.int 0))
    (.cons (.forr (.tp [3, 4]) (.zip (.var 0) (.var 1))
    b16l0)
    (.cons (.ret (.var 2))
    .nil)))
def b17 : Sts := (.cons (.ife (.or (.not (.call 3 (.cons (.var 0) .nil))) (.or (.not (.call 4 (.cons (.idx (.var 0) (.int 0)) .nil))) (.not (.call 4 (.cons (.idx (.var 0) (.int 1)) .nil)))))
    (.cons (.ret (.bl false))
    .nil)
    .nil)
    (.cons (.ret (.and (.cmp .eq (.bi .len false (.cons (.idx (.var 0) (.int 0)) .nil)) (.var 1)) (.cmp .eq (.bi .len false (.cons (.idx (.var 0) (.int 1)) .nil)) (.var 2))))
    .nil))
def b18l0 : Sts := (.cons (.ife (.cmp .gt (.bin .add false (.idx (.var 0) (.var 3)) (.idx (.var 1) (.var 5))) (.var 6))
    (.cons (.ret (.bl false))
    .nil)
    .nil)
    .nil)
def b18l1 : Sts := (.cons (.forr (.tp [5, 6]) (.enm (.var 4))
    b18l0)
    .nil)
def b18 : Sts := (.cons (.forr (.tp [3, 4]) (.enm (.var 2))
    b18l1)
    (.cons (.ret (.bl true))
    .nil))
def b19e0 : Ex := (.bin .mul false (.var 2) (.var 3))
def b19 : Sts := (.cons (.ret (.bi .sum false (.cons (.lc false [2, 3] (.tp [2, 3]) (.zip (.var 0) (.var 1)) .no b19e0) .nil)))
    .nil)
def b20 : Sts := (.cons (.ex (.call 12 (.cons (.var 0) (.cons (.var 1) (.cons (.var 2) .nil)))))
    (.cons (.ife (.or (.not (.call 1 (.cons (.var 3) .nil))) (.not (.call 15 (.cons (.var 4) (.cons (.var 0) (.cons (.var 1) .nil))))))
    (.cons (.ret (.bl false))
    .nil)
    .nil)
    (.cons (.ife (.or (.cmp .ne (.call 16 (.cons (.var 4) (.cons (.var 2) .nil))) (.var 3)) (.not (.call 17 (.cons (.var 5) (.cons (.bi .len false (.cons (.var 0) .nil)) (.cons (.bi .len false (.cons (.var 1) .nil)) .nil))))))
    (.cons (.ret (.bl false))
    .nil)
    .nil)
    (.cons (.asgT [6, 7] (.var 5))
    (.cons (.ife (.not (.call 18 (.cons (.var 6) (.cons (.var 7) (.cons (.var 2) .nil)))))
    (.cons (.ret (.bl false))
    .nil)
    .nil)
    (.cons (.ret (.cmp .eq (.bin .add false (.call 19 (.cons (.var 6) (.cons (.var 0) .nil))) (.call 19 (.cons (.var 7) (.cons (.var 1) .nil)))) (.var 3)))
    .nil))))))
def b21e0 : Ex := (.bi .int false (.cons (.var 1) .nil))
def b21 : Sts := (.cons (.ret (.lst true (.cons (.lc false [1] (.nm 1) (.seq (.var 0)) .no b21e0) (.cons (.int 0) (.cons (.int 0) (.cons (.int 0) .nil))))))
    .nil)
def b22l0 : Sts := (.cons (.ife (.or (.cmp .gt (.idx (.var 0) (.int 2)) (.int 0)) (.cmp .ge (.idx (.var 0) (.int 1)) (.bi .len false (.cons (.var 2) .nil))))
    (.cons .brk
    .nil)
    .nil)
    (.cons (.ife (.cmp .ge (.bi .abs false (.cons (.idx (.var 2) (.idx (.var 0) (.int 1))) .nil)) (.bin .pow false (.int 10) (.int 15)))
    (.cons (.asgI (.var 0) (.int 2) (.bi .abs false (.cons (.idx (.var 2) (.idx (.var 0) (.int 1))) .nil)))
    .nil)
    .nil)
    (.cons (.asgI (.var 0) (.int 1) (.bin .add false (.idx (.var 0) (.int 1)) (.int 1)))
    .nil)))
def b22 : Sts := (.cons (.asg 2 (.idx (.var 0) (.int 0)))
    (.cons (.asgI (.var 0) (.int 3) (.bin .add false (.idx (.var 0) (.int 3)) (.int 1)))
    (.cons (.forr (.nm 3) (.rng (.cons (.bi .len false (.cons (.var 2) .nil)) .nil))
    b22l0)
    (.cons (.ife (.cmp .gt (.idx (.var 0) (.int 2)) (.int 0))
    (.cons (.asg 6 (.bin .mod false (.bi .int false (.cons (.idx (.var 0) (.int 2)) .nil)) (.var 1)))
    (.cons (.asgI (.var 0) (.int 2) (.bin .div false (.idx (.var 0) (.int 2)) (.var 1)))
    (.cons (.ret (.var 6))
    .nil)))
    .nil)
    (.cons (.asg 4 (.int 0))
    (.cons (.ife (.cmp .gt (.bi .len false (.cons (.var 2) .nil)) (.int 0))
    (.cons (.asg 4 (.bin .mod false (.bi .int false (.cons (.bi .abs false (.cons (.idx (.var 2) (.bin .mod false (.bi .int false (.cons (.idx (.var 0) (.int 3)) .nil)) (.bi .len false (.cons (.var 2) .nil)))) .nil)) .nil)) (.int 1000000007)))
    .nil)
    .nil)
    (.cons (.asg 5 (.bin .mod false (.bi .int false (.cons (.bin .add false (.bin .add false (.bin .mul false (.var 4) (.int 69069)) (.bin .mul false (.idx (.var 0) (.int 3)) (.int 40503))) (.int 271)) .nil)) (.int 4294967291)))
    (.cons (.asg 5 (.bin .mod false (.bi .int false (.cons (.bin .add false (.bin .add false (.bin .mul false (.var 5) (.var 5)) (.bin .mul false (.idx (.var 0) (.int 3)) (.int 26539))) (.int 97)) .nil)) (.int 4294967279)))
    (.cons (.asg 5 (.bin .mod false (.bi .int false (.cons (.bin .add false (.bin .add false (.bin .mul false (.var 5) (.int 31821)) (.bin .div false (.var 4) (.int 9))) (.int 11)) .nil)) (.int 2147483629)))
    (.cons (.ret (.bin .mod false (.bi .int false (.cons (.bin .div false (.var 5) (.int 6)) .nil)) (.var 1)))
    .nil))))))))))
def b23l0 : Sts := (.cons (.asg 5 (.call 22 (.cons (.var 0) (.cons (.bi .len false (.cons (.var 2) .nil)) .nil))))
    (.cons (.ex (.bm .append (.var 3) (.cons (.idx (.var 2) (.var 5)) .nil)))
    (.cons (.asg 2 (.bin .add false (.slc false (.var 2) .no (.yes (.var 5))) (.slc false (.var 2) (.yes (.bin .add false (.var 5) (.int 1))) .no)))
    .nil)))
def b23e0 : Ex := (.var 4)
def b23 : Sts := (.cons (.asg 2 (.lc false [4] (.nm 4) (.rng (.cons (.var 1) .nil)) .no b23e0))
    (.cons (.asg 3 (.lst true .nil))
    (.cons (.forr (.nm 4) (.rng (.cons (.var 1) .nil))
    b23l0)
    (.cons (.ret (.var 3))
    .nil))))
def b24l0 : Sts := (.cons (.ife (.not (.call 24 (.cons (.idx (.var 0) (.var 2)) (.cons (.idx (.var 1) (.var 2)) .nil))))
    (.cons (.ret (.bl false))
    .nil)
    .nil)
    .nil)
def b24 : Sts := (.cons (.ife (.isN false (.var 1))
    (.cons (.ret (.isN false (.var 0)))
    .nil)
    .nil)
    (.cons (.ife (.isI (.var 1) [.b .bool] false)
    (.cons (.ret (.and (.isI (.var 0) [.b .bool] false) (.cmp .eq (.var 0) (.var 1))))
    .nil)
    .nil)
    (.cons (.ife (.isI (.var 1) [.b .int] false)
    (.cons (.ret (.and (.isI (.var 0) [.b .int] false) (.and (.not (.isI (.var 0) [.b .bool] false)) (.cmp .eq (.var 0) (.var 1)))))
    .nil)
    .nil)
    (.cons (.ife (.isI (.var 1) [.b .str] false)
    (.cons (.ret (.and (.isI (.var 0) [.b .str] false) (.cmp .eq (.var 0) (.var 1))))
    .nil)
    .nil)
    (.cons (.ife (.or (.not (.isI (.var 0) [.b .tuple] false)) (.cmp .ne (.bi .len false (.cons (.var 0) .nil)) (.bi .len false (.cons (.var 1) .nil))))
    (.cons (.ret (.bl false))
    .nil)
    .nil)
    (.cons (.forr (.nm 2) (.rng (.cons (.bi .len false (.cons (.var 1) .nil)) .nil))
    b24l0)
    (.cons (.ret (.bl true))
    .nil)))))))
def b25e0 : Ex := (.idx (.var 3) (.var 4))
def b25l0 : Sts := (.cons (.asg 6 (.bi .max false (.cons (.int 0) (.cons (.bin .sub false (.var 2) (.bin .mul false (.int 12) (.bin .sub false (.bin .sub false (.var 1) (.int 1)) (.var 4)))) .nil))))
    (.cons (.asg 7 (.bi .min false (.cons (.int 12) (.cons (.var 2) .nil))))
    (.cons (.ex (.bm .append (.var 3) (.cons (.idx (.lst false (.cons (.var 6) (.cons (.var 7) (.cons (.bin .add false (.var 6) (.call 22 (.cons (.var 0) (.cons (.bin .add false (.bin .sub false (.var 7) (.var 6)) (.int 1)) .nil)))) .nil)))) (.call 22 (.cons (.var 0) (.cons (.int 3) .nil)))) .nil)))
    (.cons (.asg 2 (.bin .sub false (.var 2) (.idx (.var 3) (.var 4))))
    .nil))))
def b25 : Sts := (.cons (.asg 3 (.lst true .nil))
    (.cons (.forr (.nm 4) (.rng (.cons (.var 1) .nil))
    b25l0)
    (.cons (.asg 5 (.call 23 (.cons (.var 0) (.cons (.var 1) .nil))))
    (.cons (.ret (.bi .tuple false (.cons (.lc false [4] (.nm 4) (.seq (.var 5)) .no b25e0) .nil)))
    .nil))))
def b26e0 : Ex := (.idx (.var 5) (.var 7))
def b26 : Sts := (.cons (.asg 1 (.idx (.lst false (.cons (.int 0) (.cons (.int 1) (.cons (.int 2) (.cons (.int 2) (.cons (.int 3) (.cons (.int 3) (.cons (.int 4) (.cons (.int 4) .nil))))))))) (.call 22 (.cons (.var 0) (.cons (.int 8) .nil)))))
    (.cons (.asg 2 (.idx (.lst false (.cons (.int 0) (.cons (.int 1) (.cons (.int 2) (.cons (.int 2) (.cons (.int 3) (.cons (.int 3) (.cons (.int 4) (.cons (.int 4) .nil))))))))) (.call 22 (.cons (.var 0) (.cons (.int 8) .nil)))))
    (.cons (.asg 3 (.bin .mul true (.int 12) (.bi .min false (.cons (.var 1) (.cons (.var 2) .nil)))))
    (.cons (.asg 4 (.bi .min false (.cons (.var 3) (.cons (.call 22 (.cons (.var 0) (.cons (.idx (.lst false (.cons (.bin .add false (.var 3) (.int 1)) (.cons (.int 7) (.cons (.int 13) .nil)))) (.call 22 (.cons (.var 0) (.cons (.int 3) .nil)))) .nil))) .nil))))
    (.cons (.asg 5 (.call 25 (.cons (.var 0) (.cons (.var 1) (.cons (.var 4) .nil)))))
    (.cons (.asg 6 (.call 25 (.cons (.var 0) (.cons (.var 2) (.cons (.var 4) .nil)))))
    (.cons (.ife (.and (.cmp .eq (.var 1) (.var 2)) (.cmp .eq (.call 22 (.cons (.var 0) (.cons (.int 4) .nil))) (.int 0)))
    (.cons (.asg 6 (.bi .tuple false (.cons (.lc false [7] (.nm 7) (.seq (.call 23 (.cons (.var 0) (.cons (.var 1) .nil)))) .no b26e0) .nil)))
    .nil)
    .nil)
    (.cons (.ret (.tup (.cons (.var 5) (.cons (.var 6) .nil))))
    .nil))))))))
def b27l0 : Sts := (.cons (.asg 6 (.bi .max false (.cons (.bi .sum false (.cons (.slc false (.var 0) .no (.yes (.var 3))) .nil)) (.cons (.bi .sum false (.cons (.slc false (.var 1) .no (.yes (.var 5))) .nil)) .nil))))
    (.cons (.ex (.bm .append (.var 4) (.cons (.bi .max false (.cons (.int 0) (.cons (.bin .sub false (.bi .min false (.cons (.bi .sum false (.cons (.slc false (.var 0) .no (.yes (.bin .add false (.var 3) (.int 1)))) .nil)) (.cons (.bi .sum false (.cons (.slc false (.var 1) .no (.yes (.bin .add false (.var 5) (.int 1)))) .nil)) .nil))) (.var 6)) .nil))) .nil)))
    .nil))
def b27l1 : Sts := (.cons (.asg 4 (.lst true .nil))
    (.cons (.forr (.nm 5) (.rng (.cons (.bi .len false (.cons (.var 1) .nil)) .nil))
    b27l0)
    (.cons (.ex (.bm .append (.var 2) (.cons (.bi .tuple false (.cons (.var 4) .nil)) .nil)))
    .nil)))
def b27 : Sts := (.cons (.asg 2 (.lst true .nil))
    (.cons (.forr (.nm 3) (.rng (.cons (.bi .len false (.cons (.var 0) .nil)) .nil))
    b27l1)
    (.cons (.ret (.bi .tuple false (.cons (.var 2) .nil)))
    .nil)))
def b28e0 : Ex := (.int 0)
def b28e1 : Ex := (.var 4)
def b28e2 : Ex := (.var 4)
def b28e3 : Ex := (.bi .tuple false (.cons (.lc false [12] (.nm 12) (.seq (.var 10)) .no b28e2) .nil))
def b28l0 : Sts := (.cons (.asgT [9, 10] (.call 26 (.cons (.var 1) .nil)))
    (.cons (.asg 3 (.call 27 (.cons (.var 9) (.cons (.var 10) .nil))))
    (.cons (.ife (.not (.call 24 (.cons (.call 13 (.cons (.var 9) (.cons (.var 10) .nil))) (.cons (.var 3) .nil))))
    (.cons (.ret (.bl false))
    .nil)
    .nil)
    (.cons (.ife (.not (.call 24 (.cons (.calk 13 .nil (.cons (.var 9) (.cons (.var 10) .nil)) [1, 0]) (.cons (.call 27 (.cons (.var 10) (.cons (.var 9) .nil))) .nil))))
    (.cons (.ret (.bl false))
    .nil)
    .nil)
    (.cons (.asg 4 (.bin .sub false (.call 22 (.cons (.var 1) (.cons (.int 19) .nil))) (.int 9)))
    (.cons (.asg 5 (.bi .tuple false (.cons (.lc false [11] (.nm 11) (.seq (.var 9)) .no b28e3) .nil)))
    (.cons (.asg 6 (.bin .mul false (.var 4) (.bi .sum false (.cons (.var 9) .nil))))
    (.cons (.asg 7 (.tup (.cons (.bi .tuple false (.cons (.lc false [11] (.nm 11) (.seq (.var 9)) .no b28e1) .nil)) (.cons (.bi .tuple false (.cons (.lc false [12] (.nm 12) (.seq (.var 10)) .no b28e0) .nil)) .nil))))
    (.cons (.ife (.not (.call 24 (.cons (.call 20 (.cons (.var 9) (.cons (.var 10) (.cons (.var 5) (.cons (.var 6) (.cons (.var 3) (.cons (.var 7) .nil))))))) (.cons (.bl true) .nil))))
    (.cons (.ret (.bl false))
    .nil)
    .nil)
    (.cons (.ife (.not (.call 24 (.cons (.call 20 (.cons (.var 9) (.cons (.var 10) (.cons (.var 5) (.cons (.bin .add false (.var 6) (.int 1)) (.cons (.var 3) (.cons (.var 7) .nil))))))) (.cons (.bl false) .nil))))
    (.cons (.ret (.bl false))
    .nil)
    .nil)
    (.cons (.asg 8 (.call 14 (.cons (.var 9) (.cons (.var 10) (.cons (.var 5) .nil)))))
    (.cons (.ife (.or (.not (.isI (.var 8) [.b .tuple] false)) (.or (.cmp .ne (.bi .len false (.cons (.var 8) .nil)) (.int 2)) (.not (.call 24 (.cons (.idx (.var 8) (.int 0)) (.cons (.var 6) .nil))))))
    (.cons (.ret (.bl false))
    .nil)
    .nil)
    (.cons (.ife (.not (.call 24 (.cons (.call 20 (.cons (.var 9) (.cons (.var 10) (.cons (.var 5) (.cons (.var 6) (.cons (.idx (.var 8) (.int 1)) (.cons (.var 7) .nil))))))) (.cons (.bl true) .nil))))
    (.cons (.ret (.bl false))
    .nil)
    .nil)
    .nil)))))))))))))
def b28 : Sts := (.cons (.asg 1 (.call 21 (.cons (.var 0) .nil)))
    (.cons (.forr (.nm 2) (.rng (.cons (.int 3) .nil))
    b28l0)
    (.cons (.ret (.bl true))
    .nil)))
def b29 : Sts := (.cons (.tryE (.cons (.ret (.call 28 (.cons (.var 0) .nil)))
    .nil)
    0 none (.bl false))
    .nil)
def b30e0 : Ex := (.int 0)
def b30e1 : Ex := (.lc true [4] (.nm 4) (.seq (.var 2)) .no b30e0)
def b30 : Sts := (.cons (.asgA (.var 0) 2 (.bi .list true (.cons (.var 1) .nil)))
    (.cons (.asgA (.var 0) 3 (.bi .list true (.cons (.var 2) .nil)))
    (.cons (.asgA (.var 0) 4 (.var 3))
    (.cons (.asgA (.var 0) 5 (.lc false [4] (.nm 4) (.seq (.var 1)) .no b30e1))
    .nil))))
def b31l0 : Sts := (.cons (.ife (.or (.isN false (.idx (.att (.var 1) 16) (.var 5))) (.cmp .lt (.bin .add false (.var 4) (.var 6)) (.idx (.att (.var 1) 16) (.var 5))))
    (.cons (.asgI (.att (.var 1) 16) (.var 5) (.bin .add false (.var 4) (.var 6)))
    (.cons (.asgI (.att (.var 1) 18) (.var 5) (.var 3))
    (.cons (.asg 2 (.bl true))
    .nil)))
    .nil)
    .nil)
def b31l1 : Sts := (.cons (.ife (.isN false (.var 4))
    (.cons .cnt
    .nil)
    .nil)
    (.cons (.forr (.tp [5, 6]) (.enm (.idx (.att (.var 0) 4) (.var 3)))
    b31l0)
    .nil))
def b31 : Sts := (.cons (.asg 2 (.bl false))
    (.cons (.forr (.tp [3, 4]) (.enm (.bi .list false (.cons (.att (.var 1) 15) .nil)))
    b31l1)
    (.cons (.ret (.var 2))
    .nil)))
def b32l0 : Sts := (.cons (.ife (.cmp .eq (.idx (.var 6) (.var 3)) (.int 0))
    (.cons .cnt
    .nil)
    .nil)
    (.cons (.asg 7 (.bin .sub false (.var 4) (.idx (.idx (.att (.var 0) 4) (.var 5)) (.var 3))))
    (.cons (.ife (.or (.isN false (.idx (.att (.var 1) 15) (.var 5))) (.cmp .lt (.var 7) (.idx (.att (.var 1) 15) (.var 5))))
    (.cons (.asgI (.att (.var 1) 15) (.var 5) (.var 7))
    (.cons (.asgI (.att (.var 1) 17) (.var 5) (.var 3))
    (.cons (.asg 2 (.bl true))
    .nil)))
    .nil)
    .nil)))
def b32l1 : Sts := (.cons (.ife (.isN false (.var 4))
    (.cons .cnt
    .nil)
    .nil)
    (.cons (.forr (.tp [5, 6]) (.enm (.att (.var 0) 5))
    b32l0)
    .nil))
def b32 : Sts := (.cons (.asg 2 (.bl false))
    (.cons (.forr (.tp [3, 4]) (.enm (.bi .list false (.cons (.att (.var 1) 16) .nil)))
    b32l1)
    (.cons (.ret (.var 2))
    .nil)))
def b33t0 : Ex := (.var 2)
def b33l0 : Sts := (.cons (.asg 2 (.mth (.var 0) 6 (.cons (.var 1) .nil)))
    (.cons (.ife (.mth (.var 0) 7 (.cons (.var 1) .nil))
    (.cons (.asg 2 (.bl true))
    .nil)
    .nil)
    .nil))
def b33 : Sts := (.cons (.asg 2 (.bl true))
    (.cons (.whl b33t0
    b33l0)
    .nil))
def b34l0 : Sts := (.cons (.ife (.and (.cmp .gt (.var 4) (.int 0)) (.or (.isN false (.var 2)) (.cmp .lt (.idx (.att (.var 1) 16) (.var 3)) (.idx (.att (.var 1) 16) (.var 2)))))
    (.cons (.asg 2 (.var 3))
    .nil)
    .nil)
    .nil)
def b34 : Sts := (.cons (.asg 2 .non)
    (.cons (.forr (.tp [3, 4]) (.enm (.att (.var 0) 3))
    b34l0)
    (.cons (.ret (.var 2))
    .nil)))
def b35l0 : Sts := (.cons (.ife (.cmp .lt (.var 7) (.int 0))
    (.cons (.ex (.bm .append (.var 4) (.cons (.idx (.idx (.att (.var 0) 5) (.var 5)) (.var 6)) .nil)))
    .nil)
    .nil)
    .nil)
def b35 : Sts := (.cons (.asg 4 (.lst true (.cons (.idx (.att (.var 0) 2) (.var 1)) (.cons (.idx (.att (.var 0) 3) (.var 3)) .nil))))
    (.cons (.forr (.tp [5, 6, 7]) (.seq (.var 2))
    b35l0)
    (.cons (.ret (.bi .min false (.cons (.var 4) .nil)))
    .nil)))
def b36l0 : Sts := (.cons (.augI (.idx (.att (.var 0) 5) (.var 6)) (.var 7) false (.bin .mul false (.var 8) (.var 3)))
    .nil)
def b36e0 : Ex := (.ife (.cmp .gt (.var 9) (.int 0)) (.int 0) .non)
def b36 : Sts := (.cons (.asg 1 (.mak true 1 (.cons (.lc true [9] (.nm 9) (.seq (.att (.var 0) 2)) .no b36e0) (.cons (.bi .len false (.cons (.att (.var 0) 3) .nil)) .nil))))
    (.cons (.ex (.mth (.var 0) 8 (.cons (.var 1) .nil)))
    (.cons (.asg 2 (.mth (.var 0) 9 (.cons (.var 1) .nil)))
    (.cons (.asgT [4, 5] (.mth (.var 1) 19 (.cons (.var 2) .nil)))
    (.cons (.asg 3 (.mth (.var 0) 10 (.cons (.var 4) (.cons (.var 5) (.cons (.var 2) .nil)))))
    (.cons (.forr (.tp [6, 7, 8]) (.seq (.var 5))
    b36l0)
    (.cons (.augI (.att (.var 0) 2) (.var 4) true (.var 3))
    (.cons (.augI (.att (.var 0) 3) (.var 2) true (.var 3))
    .nil))))))))
def b37t0 : Ex := (.cmp .gt (.bi .sum false (.cons (.att (.var 0) 3) .nil)) (.int 0))
def b37l0 : Sts := (.cons (.ex (.mth (.var 0) 11 .nil))
    .nil)
def b37 : Sts := (.cons (.whl b37t0
    b37l0)
    .nil)
def b38e0 : Ex := (.bin .mul false (.idx (.idx (.att (.var 0) 4) (.var 1)) (.var 3)) (.var 4))
def b38 : Sts := (.cons (.ret (.bi .sum false (.cons (.lc2 false [1, 2, 3, 4] (.tp [1, 2]) (.enm (.att (.var 0) 5)) .no (.tp [3, 4]) (.enm (.var 2)) .no b38e0) .nil)))
    .nil)
def b39 : Sts := (.cons (.ex (.call 0 (.cons (.int 0) .nil)))
    .nil)
def b40e0 : Ex := .non
def b40e1 : Ex := .non
def b40e2 : Ex := .non
def b40 : Sts := (.cons (.asgA (.var 0) 15 (.var 1))
    (.cons (.asgA (.var 0) 16 (.lc true [3] (.nm 3) (.rng (.cons (.var 2) .nil)) .no b40e2))
    (.cons (.asgA (.var 0) 17 (.lc true [3] (.nm 3) (.seq (.var 1)) .no b40e1))
    (.cons (.asgA (.var 0) 18 (.lc true [3] (.nm 3) (.rng (.cons (.var 2) .nil)) .no b40e0))
    .nil))))
def b41t0 : Ex := (.bl true)
def b41l0 : Sts := (.cons (.asg 4 (.idx (.att (.var 0) 18) (.var 3)))
    (.cons (.ex (.bm .append (.var 2) (.cons (.tup (.cons (.var 4) (.cons (.var 3) (.cons (.int 1) .nil)))) .nil)))
    (.cons (.ife (.isN false (.idx (.att (.var 0) 17) (.var 4)))
    (.cons (.ret (.tup (.cons (.var 4) (.cons (.var 2) .nil))))
    .nil)
    .nil)
    (.cons (.asg 3 (.idx (.att (.var 0) 17) (.var 4)))
    (.cons (.ex (.bm .append (.var 2) (.cons (.tup (.cons (.var 4) (.cons (.var 3) (.cons (.neg (.int 1)) .nil)))) .nil)))
    .nil)))))
def b41 : Sts := (.cons (.asg 2 (.lst true .nil))
    (.cons (.asg 3 (.var 1))
    (.cons (.whl b41t0
    b41l0)
    .nil)))
def T : Tb where
  fns := [⟨1, 1, b0, true⟩, ⟨1, 1, b1, true⟩, ⟨1, 1, b2, true⟩, ⟨1, 1, b3, true⟩, ⟨1, 2, b4, true⟩, ⟨1, 2, b5, true⟩, ⟨2, 8, b6, true⟩, ⟨2, 7, b7, true⟩, ⟨1, 2, b8, false⟩, ⟨3, 4, b9, true⟩, ⟨2, 2, b10, true⟩, ⟨3, 4, b11, true⟩, ⟨3, 3, b12, true⟩, ⟨2, 2, b13, false⟩, ⟨3, 4, b14, true⟩, ⟨3, 6, b15, true⟩, ⟨2, 7, b16, true⟩, ⟨3, 3, b17, true⟩, ⟨3, 7, b18, true⟩, ⟨2, 4, b19, true⟩, ⟨6, 8, b20, true⟩, ⟨1, 2, b21, false⟩, ⟨2, 7, b22, true⟩, ⟨2, 6, b23, true⟩, ⟨2, 3, b24, true⟩, ⟨3, 8, b25, false⟩, ⟨1, 8, b26, true⟩, ⟨2, 7, b27, false⟩, ⟨1, 13, b28, true⟩, ⟨1, 1, b29, true⟩, ⟨4, 5, b30, true⟩, ⟨2, 7, b31, true⟩, ⟨2, 8, b32, true⟩, ⟨2, 3, b33, true⟩, ⟨2, 5, b34, true⟩, ⟨4, 8, b35, true⟩, ⟨1, 10, b36, true⟩, ⟨1, 1, b37, true⟩, ⟨1, 5, b38, true⟩, ⟨1, 1, b39, true⟩, ⟨3, 4, b40, true⟩, ⟨2, 5, b41, true⟩]
  cls := [⟨[2, 3, 4, 5], some 30, [(6, 31), (7, 32), (8, 33), (9, 34), (10, 35), (11, 36), (12, 37), (13, 38), (14, 39)]⟩, ⟨[15, 16, 17, 18], some 40, [(19, 41)]⟩]
  exc := [[], [0], [0], [1]]
  anc := [[0], [1, 0], [2, 0], [3, 0]]
  glb := []
def M : Nm where
  fns := ("_wall" :: "is_integer" :: "is_number" :: "is_pair" :: "are_integers" :: "are_numbers" :: "corner_steps" :: "corner_rows" :: "frozen_rows" :: "least_transport" :: "ask_margins" :: "are_prices" :: "ask_prices" :: "corner_table" :: "least_table" :: "is_table_of" :: "cost_of" :: "is_paper_shape" :: "is_below_prices" :: "worth_of" :: "least_holds" :: "_law_start" :: "_law_pick" :: "_law_order" :: "_law_same" :: "_law_margin" :: "_law_margins" :: "_law_shared" :: "_law_all" :: "law" :: "" :: "" :: "" :: "" :: "" :: "" :: "" :: "" :: "" :: "" :: "" :: "" :: ([] : List Str))
  kws := [(13, 0, ["right", "left"], [1, 0])]
  cls := ["Transport", "Ways"]
  ckw := []
  exc := ["PieceError", "InvalidRow", "InvalidPrices", "Undefined"]
  atts := ["value", "what", "supplies", "lacks", "prices", "sent", "row_steps", "column_steps", "settle", "target", "amount_on", "send", "solve", "cost", "potentials", "rows", "columns", "into_rows", "into_columns", "way_to"]
  glb := []
def e0 : Ent := ⟨⟨("_wall", none), "_wall", "_wall", defArgs (top 0), defBody (top 0), defScope (top 0), [], []⟩, ["k"], ["k"]⟩
def e1 : Ent := ⟨⟨("is_integer", none), "is_integer", "is_integer", defArgs (top 2), defBody (top 2), defScope (top 2), [], []⟩, ["value"], ["value"]⟩
def e2 : Ent := ⟨⟨("is_number", none), "is_number", "is_number", defArgs (top 3), defBody (top 3), defScope (top 3), [], []⟩, ["value"], ["value"]⟩
def e3 : Ent := ⟨⟨("is_pair", none), "is_pair", "is_pair", defArgs (top 4), defBody (top 4), defScope (top 4), [], []⟩, ["value"], ["value"]⟩
def e4 : Ent := ⟨⟨("are_integers", none), "are_integers", "are_integers", defArgs (top 5), defBody (top 5), defScope (top 5), [], []⟩, ["value", "one"], ["value"]⟩
def e5 : Ent := ⟨⟨("are_numbers", none), "are_numbers", "are_numbers", defArgs (top 6), defBody (top 6), defScope (top 6), [], []⟩, ["value", "one"], ["value"]⟩
def e6 : Ent := ⟨⟨("corner_steps", none), "corner_steps", "corner_steps", defArgs (top 8), defBody (top 8), defScope (top 8), [], []⟩, ["left", "right", "steps", "i", "j", "rows", "columns", "amount"], ["left", "right"]⟩
def e7 : Ent := ⟨⟨("corner_rows", none), "corner_rows", "corner_rows", defArgs (top 9), defBody (top 9), defScope (top 9), [], []⟩, ["left", "right", "table", "i", "j", "amount", "_"], ["left", "right"]⟩
def e8 : Ent := ⟨⟨("frozen_rows", none), "frozen_rows", "frozen_rows", defArgs (top 10), defBody (top 10), defScope (top 10), [], []⟩, ["table", "line"], ["table"]⟩
def e9 : Ent := ⟨⟨("least_transport", none), "least_transport", "least_transport", defArgs (top 19), defBody (top 19), defScope (top 19), [], []⟩, ["left", "right", "prices", "transport"], ["left", "right", "prices"]⟩
def e10 : Ent := ⟨⟨("ask_margins", none), "ask_margins", "ask_margins", defArgs (top 21), defBody (top 21), defScope (top 21), [], []⟩, ["left", "right"], ["left", "right"]⟩
def e11 : Ent := ⟨⟨("are_prices", none), "are_prices", "are_prices", defArgs (top 22), defBody (top 22), defScope (top 22), [], []⟩, ["value", "high", "wide", "line"], ["value", "high", "wide"]⟩
def e12 : Ent := ⟨⟨("ask_prices", none), "ask_prices", "ask_prices", defArgs (top 23), defBody (top 23), defScope (top 23), [], []⟩, ["left", "right", "prices"], ["left", "right", "prices"]⟩
def e13 : Ent := ⟨⟨("corner_table", none), "corner_table", "corner_table", defArgs (top 24), defBody (top 24), defScope (top 24), [], []⟩, ["left", "right"], ["left", "right"]⟩
def e14 : Ent := ⟨⟨("least_table", none), "least_table", "least_table", defArgs (top 25), defBody (top 25), defScope (top 25), [], []⟩, ["left", "right", "prices", "transport"], ["left", "right", "prices"]⟩
def e15 : Ent := ⟨⟨("is_table_of", none), "is_table_of", "is_table_of", defArgs (top 26), defBody (top 26), defScope (top 26), [], []⟩, ["value", "left", "right", "line", "amount", "j"], ["value", "left", "right"]⟩
def e16 : Ent := ⟨⟨("cost_of", none), "cost_of", "cost_of", defArgs (top 27), defBody (top 27), defScope (top 27), [], []⟩, ["table", "prices", "total", "line", "costs", "price", "number"], ["table", "prices"]⟩
def e17 : Ent := ⟨⟨("is_paper_shape", none), "is_paper_shape", "is_paper_shape", defArgs (top 28), defBody (top 28), defScope (top 28), [], []⟩, ["value", "high", "wide"], ["value", "high", "wide"]⟩
def e18 : Ent := ⟨⟨("is_below_prices", none), "is_below_prices", "is_below_prices", defArgs (top 29), defBody (top 29), defScope (top 29), [], []⟩, ["rows", "columns", "prices", "i", "line", "j", "price"], ["rows", "columns", "prices"]⟩
def e19 : Ent := ⟨⟨("worth_of", none), "worth_of", "worth_of", defArgs (top 30), defBody (top 30), defScope (top 30), [], []⟩, ["numbers", "margin", "number", "amount"], ["numbers", "margin"]⟩
def e20 : Ent := ⟨⟨("least_holds", none), "least_holds", "least_holds", defArgs (top 31), defBody (top 31), defScope (top 31), [], []⟩, ["left", "right", "prices", "cost", "table", "paper", "rows", "columns"], ["left", "right", "prices", "cost", "table", "paper"]⟩
def e21 : Ent := ⟨⟨("_law_start", none), "_law_start", "_law_start", defArgs (top 33), defBody (top 33), defScope (top 33), [], []⟩, ["script", "cell"], ["script"]⟩
def e22 : Ent := ⟨⟨("_law_pick", none), "_law_pick", "_law_pick", defArgs (top 34), defBody (top 34), defScope (top 34), [], []⟩, ["state", "many", "cells", "k", "seed", "mixed", "digit"], ["state", "many"]⟩
def e23 : Ent := ⟨⟨("_law_order", none), "_law_order", "_law_order", defArgs (top 35), defBody (top 35), defScope (top 35), [], []⟩, ["state", "many", "left", "out", "k", "at"], ["state", "many"]⟩
def e24 : Ent := ⟨⟨("_law_same", none), "_law_same", "_law_same", defArgs (top 36), defBody (top 36), defScope (top 36), [], []⟩, ["came", "due", "k"], ["came", "due"]⟩
def e25 : Ent := ⟨⟨("_law_margin", none), "_law_margin", "_law_margin", defArgs (top 37), defBody (top 37), defScope (top 37), [], []⟩, ["state", "many", "total", "out", "k", "order", "low", "high"], ["state", "many", "total"]⟩
def e26 : Ent := ⟨⟨("_law_margins", none), "_law_margins", "_law_margins", defArgs (top 38), defBody (top 38), defScope (top 38), [], []⟩, ["state", "many", "wide", "most", "total", "left", "right", "k"], ["state"]⟩
def e27 : Ent := ⟨⟨("_law_shared", none), "_law_shared", "_law_shared", defArgs (top 39), defBody (top 39), defScope (top 39), [], []⟩, ["left", "right", "out", "i", "row", "j", "start"], ["left", "right"]⟩
def e28 : Ent := ⟨⟨("_law_all", none), "_law_all", "_law_all", defArgs (top 40), defBody (top 40), defScope (top 40), [], []⟩, ["script", "state", "k", "due", "price", "prices", "cost", "paper", "told", "left", "right", "i", "j"], ["script"]⟩
def e29 : Ent := ⟨⟨("law", none), "law", "law", defArgs (top 41), defBody (top 41), defScope (top 41), [], []⟩, ["script"], ["script"]⟩
def e30 : Ent := ⟨⟨("Transport", some "__init__"), "__init__", "Transport.__init__", defArgs (((C8.clsBody (top 17)).getD 0 (.Pass ⟨0, 0, 0, 0⟩))), defBody (((C8.clsBody (top 17)).getD 0 (.Pass ⟨0, 0, 0, 0⟩))), defScope (((C8.clsBody (top 17)).getD 0 (.Pass ⟨0, 0, 0, 0⟩))), [], []⟩, ["self", "left", "right", "prices", "_"], ["self", "left", "right", "prices"]⟩
def e31 : Ent := ⟨⟨("Transport", some "row_steps"), "row_steps", "Transport.row_steps", defArgs (((C8.clsBody (top 17)).getD 1 (.Pass ⟨0, 0, 0, 0⟩))), defBody (((C8.clsBody (top 17)).getD 1 (.Pass ⟨0, 0, 0, 0⟩))), defScope (((C8.clsBody (top 17)).getD 1 (.Pass ⟨0, 0, 0, 0⟩))), [], []⟩, ["self", "ways", "changed", "i", "cost", "j", "price"], ["self", "ways"]⟩
def e32 : Ent := ⟨⟨("Transport", some "column_steps"), "column_steps", "Transport.column_steps", defArgs (((C8.clsBody (top 17)).getD 2 (.Pass ⟨0, 0, 0, 0⟩))), defBody (((C8.clsBody (top 17)).getD 2 (.Pass ⟨0, 0, 0, 0⟩))), defScope (((C8.clsBody (top 17)).getD 2 (.Pass ⟨0, 0, 0, 0⟩))), [], []⟩, ["self", "ways", "changed", "j", "cost", "i", "line", "back"], ["self", "ways"]⟩
def e33 : Ent := ⟨⟨("Transport", some "settle"), "settle", "Transport.settle", defArgs (((C8.clsBody (top 17)).getD 3 (.Pass ⟨0, 0, 0, 0⟩))), defBody (((C8.clsBody (top 17)).getD 3 (.Pass ⟨0, 0, 0, 0⟩))), defScope (((C8.clsBody (top 17)).getD 3 (.Pass ⟨0, 0, 0, 0⟩))), [], []⟩, ["self", "ways", "changed"], ["self", "ways"]⟩
def e34 : Ent := ⟨⟨("Transport", some "target"), "target", "Transport.target", defArgs (((C8.clsBody (top 17)).getD 4 (.Pass ⟨0, 0, 0, 0⟩))), defBody (((C8.clsBody (top 17)).getD 4 (.Pass ⟨0, 0, 0, 0⟩))), defScope (((C8.clsBody (top 17)).getD 4 (.Pass ⟨0, 0, 0, 0⟩))), [], []⟩, ["self", "ways", "best", "j", "lack"], ["self", "ways"]⟩
def e35 : Ent := ⟨⟨("Transport", some "amount_on"), "amount_on", "Transport.amount_on", defArgs (((C8.clsBody (top 17)).getD 5 (.Pass ⟨0, 0, 0, 0⟩))), defBody (((C8.clsBody (top 17)).getD 5 (.Pass ⟨0, 0, 0, 0⟩))), defScope (((C8.clsBody (top 17)).getD 5 (.Pass ⟨0, 0, 0, 0⟩))), [], []⟩, ["self", "start", "steps", "target", "amounts", "i", "j", "sign"], ["self", "start", "steps", "target"]⟩
def e36 : Ent := ⟨⟨("Transport", some "send"), "send", "Transport.send", defArgs (((C8.clsBody (top 17)).getD 6 (.Pass ⟨0, 0, 0, 0⟩))), defBody (((C8.clsBody (top 17)).getD 6 (.Pass ⟨0, 0, 0, 0⟩))), defScope (((C8.clsBody (top 17)).getD 6 (.Pass ⟨0, 0, 0, 0⟩))), [], []⟩, ["self", "ways", "target", "amount", "start", "steps", "i", "j", "sign", "supply"], ["self"]⟩
def e37 : Ent := ⟨⟨("Transport", some "solve"), "solve", "Transport.solve", defArgs (((C8.clsBody (top 17)).getD 7 (.Pass ⟨0, 0, 0, 0⟩))), defBody (((C8.clsBody (top 17)).getD 7 (.Pass ⟨0, 0, 0, 0⟩))), defScope (((C8.clsBody (top 17)).getD 7 (.Pass ⟨0, 0, 0, 0⟩))), [], []⟩, ["self"], ["self"]⟩
def e38 : Ent := ⟨⟨("Transport", some "cost"), "cost", "Transport.cost", defArgs (((C8.clsBody (top 17)).getD 8 (.Pass ⟨0, 0, 0, 0⟩))), defBody (((C8.clsBody (top 17)).getD 8 (.Pass ⟨0, 0, 0, 0⟩))), defScope (((C8.clsBody (top 17)).getD 8 (.Pass ⟨0, 0, 0, 0⟩))), [], []⟩, ["self", "i", "line", "j", "amount"], ["self"]⟩
def e39 : Ent := ⟨⟨("Transport", some "potentials"), "potentials", "Transport.potentials", defArgs (((C8.clsBody (top 17)).getD 9 (.Pass ⟨0, 0, 0, 0⟩))), defBody (((C8.clsBody (top 17)).getD 9 (.Pass ⟨0, 0, 0, 0⟩))), defScope (((C8.clsBody (top 17)).getD 9 (.Pass ⟨0, 0, 0, 0⟩))), [], []⟩, ["self"], ["self"]⟩
def e40 : Ent := ⟨⟨("Ways", some "__init__"), "__init__", "Ways.__init__", defArgs (((C8.clsBody (top 18)).getD 0 (.Pass ⟨0, 0, 0, 0⟩))), defBody (((C8.clsBody (top 18)).getD 0 (.Pass ⟨0, 0, 0, 0⟩))), defScope (((C8.clsBody (top 18)).getD 0 (.Pass ⟨0, 0, 0, 0⟩))), [], []⟩, ["self", "rows", "wide", "_"], ["self", "rows", "wide"]⟩
def e41 : Ent := ⟨⟨("Ways", some "way_to"), "way_to", "Ways.way_to", defArgs (((C8.clsBody (top 18)).getD 1 (.Pass ⟨0, 0, 0, 0⟩))), defBody (((C8.clsBody (top 18)).getD 1 (.Pass ⟨0, 0, 0, 0⟩))), defScope (((C8.clsBody (top 18)).getD 1 (.Pass ⟨0, 0, 0, 0⟩))), [], []⟩, ["self", "target", "steps", "j", "i"], ["self", "target"]⟩
def es : List Ent := [e0, e1, e2, e3, e4, e5, e6, e7, e8, e9, e10, e11, e12, e13, e14, e15, e16, e17, e18, e19, e20, e21, e22, e23, e24, e25, e26, e27, e28, e29, e30, e31, e32, e33, e34, e35, e36, e37, e38, e39, e40, e41]
theorem bp0 : BnP e0 := fun _ _ _ _ _ _ us hl => match us, hl with | [_], _ => rfl
theorem bp1 : BnP e1 := fun _ _ _ _ _ _ us hl => match us, hl with | [_], _ => rfl
theorem bp2 : BnP e2 := fun _ _ _ _ _ _ us hl => match us, hl with | [_], _ => rfl
theorem bp3 : BnP e3 := fun _ _ _ _ _ _ us hl => match us, hl with | [_], _ => rfl
theorem bp4 : BnP e4 := fun _ _ _ _ _ _ us hl => match us, hl with | [_], _ => rfl
theorem bp5 : BnP e5 := fun _ _ _ _ _ _ us hl => match us, hl with | [_], _ => rfl
theorem bp6 : BnP e6 := fun _ _ _ _ _ _ us hl => match us, hl with | [_, _], _ => rfl
theorem bp7 : BnP e7 := fun _ _ _ _ _ _ us hl => match us, hl with | [_, _], _ => rfl
theorem bp8 : BnP e8 := fun _ _ _ _ _ _ us hl => match us, hl with | [_], _ => rfl
theorem bp9 : BnP e9 := fun _ _ _ _ _ _ us hl => match us, hl with | [_, _, _], _ => rfl
theorem bp10 : BnP e10 := fun _ _ _ _ _ _ us hl => match us, hl with | [_, _], _ => rfl
theorem bp11 : BnP e11 := fun _ _ _ _ _ _ us hl => match us, hl with | [_, _, _], _ => rfl
theorem bp12 : BnP e12 := fun _ _ _ _ _ _ us hl => match us, hl with | [_, _, _], _ => rfl
theorem bp13 : BnP e13 := fun _ _ _ _ _ _ us hl => match us, hl with | [_, _], _ => rfl
theorem bp14 : BnP e14 := fun _ _ _ _ _ _ us hl => match us, hl with | [_, _, _], _ => rfl
theorem bp15 : BnP e15 := fun _ _ _ _ _ _ us hl => match us, hl with | [_, _, _], _ => rfl
theorem bp16 : BnP e16 := fun _ _ _ _ _ _ us hl => match us, hl with | [_, _], _ => rfl
theorem bp17 : BnP e17 := fun _ _ _ _ _ _ us hl => match us, hl with | [_, _, _], _ => rfl
theorem bp18 : BnP e18 := fun _ _ _ _ _ _ us hl => match us, hl with | [_, _, _], _ => rfl
theorem bp19 : BnP e19 := fun _ _ _ _ _ _ us hl => match us, hl with | [_, _], _ => rfl
theorem bp20 : BnP e20 := fun _ _ _ _ _ _ us hl => match us, hl with | [_, _, _, _, _, _], _ => rfl
theorem bp21 : BnP e21 := fun _ _ _ _ _ _ us hl => match us, hl with | [_], _ => rfl
theorem bp22 : BnP e22 := fun _ _ _ _ _ _ us hl => match us, hl with | [_, _], _ => rfl
theorem bp23 : BnP e23 := fun _ _ _ _ _ _ us hl => match us, hl with | [_, _], _ => rfl
theorem bp24 : BnP e24 := fun _ _ _ _ _ _ us hl => match us, hl with | [_, _], _ => rfl
theorem bp25 : BnP e25 := fun _ _ _ _ _ _ us hl => match us, hl with | [_, _, _], _ => rfl
theorem bp26 : BnP e26 := fun _ _ _ _ _ _ us hl => match us, hl with | [_], _ => rfl
theorem bp27 : BnP e27 := fun _ _ _ _ _ _ us hl => match us, hl with | [_, _], _ => rfl
theorem bp28 : BnP e28 := fun _ _ _ _ _ _ us hl => match us, hl with | [_], _ => rfl
theorem bp29 : BnP e29 := fun _ _ _ _ _ _ us hl => match us, hl with | [_], _ => rfl
theorem bp30 : BnP e30 := fun _ _ _ _ _ _ us hl => match us, hl with | [_, _, _, _], _ => rfl
theorem bp31 : BnP e31 := fun _ _ _ _ _ _ us hl => match us, hl with | [_, _], _ => rfl
theorem bp32 : BnP e32 := fun _ _ _ _ _ _ us hl => match us, hl with | [_, _], _ => rfl
theorem bp33 : BnP e33 := fun _ _ _ _ _ _ us hl => match us, hl with | [_, _], _ => rfl
theorem bp34 : BnP e34 := fun _ _ _ _ _ _ us hl => match us, hl with | [_, _], _ => rfl
theorem bp35 : BnP e35 := fun _ _ _ _ _ _ us hl => match us, hl with | [_, _, _, _], _ => rfl
theorem bp36 : BnP e36 := fun _ _ _ _ _ _ us hl => match us, hl with | [_], _ => rfl
theorem bp37 : BnP e37 := fun _ _ _ _ _ _ us hl => match us, hl with | [_], _ => rfl
theorem bp38 : BnP e38 := fun _ _ _ _ _ _ us hl => match us, hl with | [_], _ => rfl
theorem bp39 : BnP e39 := fun _ _ _ _ _ _ us hl => match us, hl with | [_], _ => rfl
theorem bp40 : BnP e40 := fun _ _ _ _ _ _ us hl => match us, hl with | [_, _, _], _ => rfl
theorem bp41 : BnP e41 := fun _ _ _ _ _ _ us hl => match us, hl with | [_, _], _ => rfl
theorem bpA : ∀ e ∈ es, BnP e := by
  intro e h
  simp only [es, List.mem_cons, List.not_mem_nil, or_false] at h
  rcases h with rfl | rfl | rfl | rfl | rfl | rfl | rfl | rfl | rfl | rfl | rfl | rfl | rfl | rfl | rfl | rfl | rfl | rfl | rfl | rfl | rfl | rfl | rfl | rfl | rfl | rfl | rfl | rfl | rfl | rfl | rfl | rfl | rfl | rfl | rfl | rfl | rfl | rfl | rfl | rfl | rfl | rfl
  · exact bp0
  · exact bp1
  · exact bp2
  · exact bp3
  · exact bp4
  · exact bp5
  · exact bp6
  · exact bp7
  · exact bp8
  · exact bp9
  · exact bp10
  · exact bp11
  · exact bp12
  · exact bp13
  · exact bp14
  · exact bp15
  · exact bp16
  · exact bp17
  · exact bp18
  · exact bp19
  · exact bp20
  · exact bp21
  · exact bp22
  · exact bp23
  · exact bp24
  · exact bp25
  · exact bp26
  · exact bp27
  · exact bp28
  · exact bp29
  · exact bp30
  · exact bp31
  · exact bp32
  · exact bp33
  · exact bp34
  · exact bp35
  · exact bp36
  · exact bp37
  · exact bp38
  · exact bp39
  · exact bp40
  · exact bp41
theorem bk0 : BnK e13 0 ["right", "left"] [1, 0] := fun _ _ _ _ _ _ us ws h1 h2 => match us, ws, h1, h2 with | [], [_, _], _, _ => ⟨_, rfl, rfl⟩
theorem bkA : ∀ f n ks pm, (f, n, ks, pm) ∈ M.kws → ∀ e, es[f]? = some e → BnK e n ks pm := by
  intro f n ks pm h e he
  simp only [M, List.mem_cons, List.not_mem_nil, or_false, Prod.mk.injEq] at h
  rcases h with ⟨rfl, rfl, rfl, rfl⟩
  · cases he; exact bk0
theorem bcA : ∀ k n ks pm C f, (k, n, ks, pm) ∈ M.ckw → T.cls[k]? = some C → C.init = some f → ∀ e, es[f]? = some e → BnC e n ks pm := by
  intro k n ks pm C f h hC hi e he
  simp only [M, List.mem_cons, List.not_mem_nil, or_false, Prod.mk.injEq] at h

theorem text_ok : textB M T es = true := by decide +kernel
def chk : PySem.W.Frag → Bool := headB M T es (xB PySem.Challenge.pw_piecerealm_k42_corners_filled M T)
def fnl : List DefD := es.map (·.d)
abbrev hk : PySem.W.Hook := hookX 4 chk fnl
def ob (s : PySem.W.SharedT) : AlD := obsXG 4 chk fnl (HandSHeadRun.getT s)
theorem ob_eq (s : PySem.W.SharedT) : ob s = hk.obs s.abs := obsXG_eq (HandSHeadRun.getT_eq s)
abbrev R : PySem.W.OpenRow := PySem.W.OpenLaw.row PySem.Challenge.rw_piecerealm_k42_corners_filled
def names : List Str := ((PySem.Challenge.pw_piecerealm_k42_corners_filled.main.scope.names).map (·.1)).filter fun x => !(x == "law")
theorem run_head (w : World) : HandSHeadRun.RunEq R (PySem.W.view R.prog [41]) hk ob 6000 names w := by
  intro os
  kernel_rfl
end Lw
open PySem PySem.W PySem.Calls PyProof.Rows
theorem PySem.Challenge.cw_piecerealm_k42_corners_filled_from (hA : Ev.Asked Lw.T 200 29) : PySem.Challenge.rw_piecerealm_k42_corners_filled.Holds := by
  w_on; o_law
  refine HandSHeadRun.head_any (r := OpenLaw.row PySem.Challenge.rw_piecerealm_k42_corners_filled) (q := view (OpenLaw.row PySem.Challenge.rw_piecerealm_k42_corners_filled).prog [41]) (H := Lw.hk) (ob := Lw.ob) (M := 6000) (loose := Lw.names) (d := HandSHeadRun.topDef (OpenLaw.row PySem.Challenge.rw_piecerealm_k42_corners_filled).prog 41) (kwd := []) Lw.ob_eq
    (by kernel_rfl) (fun s => by kernel_rfl) Lw.run_head (by kernel_rfl) (by kernel_rfl) (by kernel_rfl) (by rfl) (by first | assumption | decide +kernel) (by decide +kernel) ⟨rfl, rfl, rfl, rfl, rfl, by decide +kernel⟩ ?hw ?hc
  case hw => w_witness2
  case hc =>
    refine L2.walk_ofE (l := PySem.Challenge.rw_piecerealm_k42_corners_filled) (n := 63) (k := 200) (x := "script") (CX := Ev.CXw (PySem.Challenge.rw_piecerealm_k42_corners_filled).prog) rfl (by decide) (by kernel_rfl) ⟨rfl, by decide, by decide⟩ ?F (fun _ _ _ _ z => Ev.cxw_no z)
    intro w mg fa h Y G hmg0
    obtain ⟨K, KX, c⟩ := Y
    have hmg : mg ("law" : PySem.Str) = some (.ref fa) := by
      have e : (HandSHeadRun.topDef (OpenLaw.row PySem.Challenge.rw_piecerealm_k42_corners_filled).prog 41).name = ("law" : PySem.Str) := by kernel_rfl
      rw [← e]
      exact hmg0
    exact Ev.law_F KX G Lw.text_ok c Lw.bpA Lw.bkA Lw.bcA (fun base hK a => Ev.xmk a) (e := Lw.e29) rfl rfl rfl rfl hmg hA
end
section
set_option maxRecDepth 100000
set_option maxHeartbeats 8000000
namespace Lw
open Ev Lg
def QD (ns : List Int) (X : Store) (k : Nat) (S : Store) : Prop := (ns.length ≤ 63 ∧ ∀ c ∈ X, belowC 0 c = true) ∧ ∃ a b c, S = stc ns a b c :: X ∧ 0 ≤ a ∧ 0 ≤ b ∧ 0 ≤ c ∧ c ≤ (k : Int)
theorem QD.len {ns : List Int} {X : Store} {k : Nat} {S : Store} (q : QD ns X k S) : S.length = X.length + 1 := by
  obtain ⟨_, a, b, c, rfl, _⟩ := q
  rfl
theorem QD.mono {ns : List Int} {X : Store} {k k' : Nat} {S : Store} (q : QD ns X k S) (h : k ≤ k') : QD ns X k' S := by
  obtain ⟨hn, a, b, c, h1, h2, h3, h4, h5⟩ := q
  exact ⟨hn, a, b, c, h1, h2, h3, h4, by omega⟩
theorem QD.app {ns : List Int} {X : Store} {k : Nat} {S : Store} (q : QD ns X k S) {c : Cell} (hc : belowC 0 c = true) : QD ns (X ++ [c]) k (S ++ [c]) := by
  obtain ⟨⟨hn, hX⟩, a, b, c, rfl, h⟩ := q
  refine ⟨⟨hn, fun x hx => ?_⟩, a, b, c, rfl, h⟩
  rcases List.mem_append.mp hx with hx | hx
  · exact hX x hx
  · rw [List.mem_singleton.mp hx]; exact hc
theorem QD.un {ns : List Int} {X : Store} {k : Nat} {S : Store} {x : Cell} (q : QD ns (X ++ [x]) k S) : ∃ S', S = S' ++ [x] ∧ QD ns X k S' := by
  obtain ⟨⟨hn, hX⟩, a, b, c, rfl, h⟩ := q
  exact ⟨stc ns a b c :: X, rfl, ⟨hn, fun y hy => hX y (List.mem_append_left _ hy)⟩, a, b, c, rfl, h⟩
theorem QD.cut {ns : List Int} {X : Store} {k : Nat} {S S' : Store} (q : QD ns X k S) {k' : Nat} (q' : QD ns X k' S') (Y : Store) : cutOk S (S' ++ Y) = true := by
  have l := q.len
  have l' := q'.len
  obtain ⟨⟨hn, hX⟩, a, b, c, rfl, h⟩ := q'
  unfold cutOk
  rw [l, ← l', List.take_left', Bool.or_eq_true]
  · refine .inr (List.all_eq_true.mpr fun x hx => ?_)
    rcases List.mem_cons.mp hx with rfl | hx
    · refine belC_mono ?_
      simp [stc, belowC, belowL, below]
    · exact belC_mono (hX x hx)
  · rfl
/-- a new list that is handed back -/
theorem QD.tidy {ns : List Int} {X : Store} {k : Nat} {S S' : Store} (q : QD ns X k S) {k' : Nat} (q' : QD ns X k' S') {l : List D} (hl : belowL 0 l = true) : Ev.tidy true S (.ok (.ref S.length) (S' ++ [.lst l])) = .ok (.lst l) S' := by
  have l1 := q.len
  have l2 := q'.len
  unfold Ev.tidy
  have e : (S' ++ [Cell.lst l])[S.length]? = some (.lst l) := by rw [l1, ← l2]; simp
  have b : below S.length (.ref S.length) = false := by simp [below]
  have b2 : belowL S.length l = true := bel_mono.2 l hl
  have t : (S' ++ [Cell.lst l]).take S.length = S' := by rw [l1, ← l2]; simp
  simp only [q.cut q', if_true, b, e, b2, t, Bool.false_eq_true, if_false]
theorem dq {ns : List Int} {X : Store} {k : Nat} {S : Store} (q : QD ns X k S) (hk : k < 2 ^ 90) {m : Int} (hm : 0 < m) (hmw : m < 2 ^ 90) (n : Nat) :
    ∃ (r : Nat) (S' : Store), run T (n + 1) 22 [.ref 0, .int m] S = .ok (.int r) S' ∧ QD ns X (k + 1) S' ∧ (r : Int) < m := by
  obtain ⟨hn, a, b, c, rfl, h1, h2, h3, h4⟩ := q
  obtain ⟨r, a', b', e, r0, r1, h1', h2'⟩ := pick_of (T := T) (f := 22) rfl hn.1 h1 h2 h3 (by omega) hm (by omega) n X
  refine ⟨r.toNat, _, ?_, ⟨hn, a', b', c + 1, rfl, h1', h2', by omega, by omega⟩, by omega⟩
  rw [e, Int.toNat_of_nonneg r0]
theorem box (n : Nat) {ns : List Int} (hn : ns.length ≤ 63) : ∃ S, run T (n + 1) 21 [.lst (ns.map .int)] [] = .ok (.ref 0) S ∧ QD ns [] 0 S := by
  refine ⟨_, start_of (T := T) (f := 21) rfl hn n, ⟨hn, by simp⟩, 0, 0, 0, rfl, ?_, ?_, ?_, ?_⟩ <;> decide
theorem order_loop (n : Nat) {ns : List Int} {X : Store} : ∀ (L : List D) (left out : List Nat) (k : Nat) (S : Store) (x4 x5 : Option D) (y1 : Option D), QD ns (X ++ [.lst (out.map fun p => D.int (p : Nat))]) k S → k + L.length < 2 ^ 60 → L.length = left.length → out.length + left.length ≤ 100 →
    ∃ (out' : List Nat) (S' : Store) (z4 z5 : Option D), forL (.nm 4) (fun ρ S => exSs (csOf T (n + 1)) b23l0 ρ S) [] L [some (.ref 0), y1, some (.lst (left.map fun p => D.int (p : Nat))), some (.ref (X.length + 1)), x4, x5] S = .nx [some (.ref 0), y1, some (.lst []), some (.ref (X.length + 1)), z4, z5] S' ∧
      QD ns (X ++ [.lst (out'.map fun p => D.int (p : Nat))]) (k + L.length) S' ∧ out'.Perm (out ++ left)
  | [], left, out, k, S, x4, x5, y1, q, hk, hl, ho => by
    have : left = [] := List.length_eq_zero_iff.mp hl.symm
    subst this
    exact ⟨out, S, x4, x5, forL_nil, q, by simp⟩
  | d :: L, left, out, k, S, x4, x5, y1, q, hk, hl, ho => by
    simp only [List.length_cons] at hk hl
    obtain ⟨r, S1, e1, q1, r1⟩ := dq q (by omega) (m := (left.length : Int)) (by omega) (by omega) n
    have hr : r < left.length := by omega
    obtain ⟨S2, rfl, q2⟩ := q1.un
    have q3 := q2.app (c := .lst ((out ++ [left[r]]).map fun p => D.int (p : Nat))) (nd_below _)
    obtain ⟨out', S', z4, z5, e2, q4, h4⟩ := order_loop n L (left.take r ++ left.drop (r + 1)) (out ++ [left[r]]) (k + 1) _ (some d) (some (.int r)) y1 q3 (by omega) (by simp; omega) (by simp; omega)
    refine ⟨out', S', z4, z5, ?_, q4.mono (by simp only [List.length_cons]; omega), h4.trans ?_⟩
    · rw [← e2]
      have lim := lim_le (n := out.length) (by omega)
      have lt : out.length < LIM := by unfold LIM; omega
      have l2 := q2.len
      have g1 : (S2 ++ [Cell.lst (out.map fun p => D.int (p : Nat))])[X.length + 1]? = some (.lst (out.map fun p => D.int (p : Nat))) := by rw [← l2]; simp
      have g2 : (S2 ++ [Cell.lst (out.map fun p => D.int (p : Nat))]).set (X.length + 1) (.lst (out.map (fun p => D.int (p : Nat)) ++ [.int (left[r] : Nat)])) = S2 ++ [Cell.lst ((out ++ [left[r]]).map fun p => D.int (p : Nat))] := by rw [← l2]; simp
      have c1 := cut_lo (left.map fun p => D.int (p : Nat)) r (by simp; omega)
      have c2 := cut_hi (left.map fun p => D.int (p : Nat)) (r + 1)
      push_cast at c2
      have lm : min r left.length + (left.length - (r + 1)) ≤ LIM := by unfold LIM; omega
      exact forL_nx rfl (by
        simp (dsimp := false) (implicitDefEqProofs := false) [b23l0, e1, bmOk, bmD, g1, g2, lt, slcD, c1, c2, lstOf, mkL, hr, lm, List.map_take, List.map_drop, exSs, exS, evE.eq_1, evE.eq_2, evE.eq_3, evE.eq_4, evE.eq_5, evE.eq_6, evE.eq_7, evE.eq_8, evE.eq_9, evE.eq_10, evE.eq_11, evE.eq_12, evE.eq_13, evE.eq_14, evE.eq_15, evE.eq_16, evE.eq_17, evE.eq_18, evE.eq_19, evE.eq_20, evE.eq_21, evE.eq_22, evE.eq_23, evE.eq_24, evE.eq_25, evE.eq_26, evE.eq_27, evE.eq_28, evT, evL, evI, evC, evW, startF, setS, idxD, seqOf, ixN, binD, arI, setI, cmpD, intCmp, cmpI, truD, isAny, isD, isNo, pln, vw, eqD, biD, tidy_same])
    · have h5 := take_drop_perm left r hr
      rw [List.append_assoc]
      exact List.Perm.append_left out h5
theorem order (n : Nat) {ns : List Int} {X : Store} {k : Nat} {S : Store} (q : QD ns X k S) {m : Nat} (hm : m ≤ 100) (hk : k + m < 2 ^ 60) :
    ∃ (π : List Nat) (S' : Store), run T (n + 2) 23 [.ref 0, .int (m : Nat)] S = .ok (.lst (π.map fun p => D.int (p : Nat))) S' ∧ QD ns X (k + m) S' ∧ π.Perm (List.range m) := by
  have q1 := q.app (c := .lst (([] : List Nat).map fun p => D.int (p : Nat))) rfl
  obtain ⟨out, S', z4, z5, e, q2, hp⟩ := order_loop n (upTo 0 m) (List.range m) [] k _ none none (some (.int (m : Nat))) q1 (by simp [upTo0]; omega) (by simp [upTo0]) (by simp; omega)
  have hu : (upTo 0 m).length = m := by simp [upTo0]
  rw [hu] at q2
  obtain ⟨S2, rfl, q3⟩ := q2.un
  refine ⟨out, S2, ?_, q3, by simpa using hp⟩
  have l1 := q.len
  have l2 := q3.len
  have lim : (m : Int) ≤ LIM ∧ -(LIM : Int) ≤ m := by unfold LIM; omega
  have lim2 : m ≤ LIM := by unfold LIM; omega
  rw [run_def (F := ⟨2, 6, b23, true⟩) rfl rfl]
  have e0 := lc_map (C := csOf T (n + 1)) (own := [4]) (tg := .nm 4) (it := .rng (.cons (.var 1) .nil)) (e := b23e0) (ρ := [some (.ref 0), some (.int (m : Nat)), none, none, none, none]) (S := S) (l := upTo 0 m) (g := []) (fun d => d)
    (by simp (dsimp := false) (implicitDefEqProofs := false) [rngIt, lim, exSs, exS, evE.eq_1, evE.eq_2, evE.eq_3, evE.eq_4, evE.eq_5, evE.eq_6, evE.eq_7, evE.eq_8, evE.eq_9, evE.eq_10, evE.eq_11, evE.eq_12, evE.eq_13, evE.eq_14, evE.eq_15, evE.eq_16, evE.eq_17, evE.eq_18, evE.eq_19, evE.eq_20, evE.eq_21, evE.eq_22, evE.eq_23, evE.eq_24, evE.eq_25, evE.eq_26, evE.eq_27, evE.eq_28, evT, evL, evI, evC, evW, startF, setS, idxD, seqOf, ixN, binD, arI, setI, cmpD, intCmp, cmpI, truD, isAny, isD, isNo, pln, vw, eqD, biD, tidy_same]) (fun c => gOk_nil _) (fun d hd x => ⟨_, rfl, by simp (dsimp := false) (implicitDefEqProofs := false) [b23e0, wipe, exSs, exS, evE.eq_1, evE.eq_2, evE.eq_3, evE.eq_4, evE.eq_5, evE.eq_6, evE.eq_7, evE.eq_8, evE.eq_9, evE.eq_10, evE.eq_11, evE.eq_12, evE.eq_13, evE.eq_14, evE.eq_15, evE.eq_16, evE.eq_17, evE.eq_18, evE.eq_19, evE.eq_20, evE.eq_21, evE.eq_22, evE.eq_23, evE.eq_24, evE.eq_25, evE.eq_26, evE.eq_27, evE.eq_28, evT, evL, evI, evC, evW, startF, setS, idxD, seqOf, ixN, binD, arI, setI, cmpD, intCmp, cmpI, truD, isAny, isD, isNo, pln, vw, eqD, biD, tidy_same]⟩) (by rw [hu]; exact lim2) (by rw [upTo0]; simp only [List.map_id']; exact belowL_of fun d hd => by obtain ⟨i, _, rfl⟩ := List.mem_map.mp hd; rfl)
  simp only [List.map_id', upTo0] at e0
  simp only [upTo0] at e
  rw [List.map_nil] at e
  simp (dsimp := false) (implicitDefEqProofs := false) [b23, e0, mkL, l1, e, rngIt, lim, upTo0, exSs, exS, evE.eq_1, evE.eq_2, evE.eq_3, evE.eq_4, evE.eq_5, evE.eq_6, evE.eq_7, evE.eq_8, evE.eq_9, evE.eq_10, evE.eq_11, evE.eq_12, evE.eq_13, evE.eq_14, evE.eq_15, evE.eq_16, evE.eq_17, evE.eq_18, evE.eq_19, evE.eq_20, evE.eq_21, evE.eq_22, evE.eq_23, evE.eq_24, evE.eq_25, evE.eq_26, evE.eq_27, evE.eq_28, evT, evL, evI, evC, evW, startF, setS, idxD, seqOf, ixN, binD, arI, setI, cmpD, intCmp, cmpI, truD, isAny, isD, isNo, pln, vw, eqD, biD, tidy_same]
  rw [← l1]
  exact q.tidy q3 (nd_below _)
end Lw
end
section
set_option maxRecDepth 100000
set_option maxHeartbeats 8000000
namespace Lw
open Ev Lg
abbrev tn (l : List Nat) : D := .tup (ndl l)
theorem f_int (n : Nat) (i : Int) (S : Store) : run T (n + 1) 1 [.int i] S = .ok (.bl true) S := by
  rw [run_def (F := ⟨1, 1, b1, true⟩) rfl rfl]
  simp (dsimp := false) (implicitDefEqProofs := false) [b1, exSs, exS, evE.eq_1, evE.eq_2, evE.eq_3, evE.eq_4, evE.eq_5, evE.eq_6, evE.eq_7, evE.eq_8, evE.eq_9, evE.eq_10, evE.eq_11, evE.eq_12, evE.eq_13, evE.eq_14, evE.eq_15, evE.eq_16, evE.eq_17, evE.eq_18, evE.eq_19, evE.eq_20, evE.eq_21, evE.eq_22, evE.eq_23, evE.eq_24, evE.eq_25, evE.eq_26, evE.eq_27, evE.eq_28, evT, evL, evI, evC, evW, startF, setS, idxD, seqOf, ixN, binD, arI, setI, cmpD, intCmp, cmpI, truD, isAny, isD, isNo, pln, vw, eqD, biD, tidy_same, wipe, toR_nx]
theorem f_num (n : Nat) (i : Nat) (S : Store) : run T (n + 2) 2 [.int (i : Nat)] S = .ok (.bl true) S := by
  rw [run_def (F := ⟨1, 1, b2, true⟩) rfl rfl]
  simp (dsimp := false) (implicitDefEqProofs := false) [b2, f_int, exSs, exS, evE.eq_1, evE.eq_2, evE.eq_3, evE.eq_4, evE.eq_5, evE.eq_6, evE.eq_7, evE.eq_8, evE.eq_9, evE.eq_10, evE.eq_11, evE.eq_12, evE.eq_13, evE.eq_14, evE.eq_15, evE.eq_16, evE.eq_17, evE.eq_18, evE.eq_19, evE.eq_20, evE.eq_21, evE.eq_22, evE.eq_23, evE.eq_24, evE.eq_25, evE.eq_26, evE.eq_27, evE.eq_28, evT, evL, evI, evC, evW, startF, setS, idxD, seqOf, ixN, binD, arI, setI, cmpD, intCmp, cmpI, truD, isAny, isD, isNo, pln, vw, eqD, biD, tidy_same, wipe, toR_nx]
theorem f_nums (n : Nat) (l : List Nat) (hl : l.length ≤ 1000) (S : Store) : run T (n + 3) 5 [tn l] S = .ok (.bl true) S := by
  rw [run_def (F := ⟨1, 2, b5, true⟩) rfl rfl]
  have lim := lim_le hl
  have e := lc_map (C := csOf T (n + 2)) (own := [1]) (tg := .nm 1) (it := .seq (.var 0)) (e := b5e0) (ρ := [some (tn l), none]) (S := S) (l := ndl l) (g := []) (fun _ => .bl true)
    (by simp (dsimp := false) (implicitDefEqProofs := false) [seqIt, Ev.guard, exSs, exS, evE.eq_1, evE.eq_2, evE.eq_3, evE.eq_4, evE.eq_5, evE.eq_6, evE.eq_7, evE.eq_8, evE.eq_9, evE.eq_10, evE.eq_11, evE.eq_12, evE.eq_13, evE.eq_14, evE.eq_15, evE.eq_16, evE.eq_17, evE.eq_18, evE.eq_19, evE.eq_20, evE.eq_21, evE.eq_22, evE.eq_23, evE.eq_24, evE.eq_25, evE.eq_26, evE.eq_27, evE.eq_28, evT, evL, evI, evC, evW, startF, setS, idxD, seqOf, ixN, binD, arI, setI, cmpD, intCmp, cmpI, truD, isAny, isD, isNo, pln, vw, eqD, biD, tidy_same, wipe, toR_nx]) (fun c => gOk_nil _) (fun d hd x => ⟨_, rfl, by
      obtain ⟨i, _, rfl⟩ := List.mem_map.mp hd
      simp (dsimp := false) (implicitDefEqProofs := false) [b5e0, f_num, exSs, exS, evE.eq_1, evE.eq_2, evE.eq_3, evE.eq_4, evE.eq_5, evE.eq_6, evE.eq_7, evE.eq_8, evE.eq_9, evE.eq_10, evE.eq_11, evE.eq_12, evE.eq_13, evE.eq_14, evE.eq_15, evE.eq_16, evE.eq_17, evE.eq_18, evE.eq_19, evE.eq_20, evE.eq_21, evE.eq_22, evE.eq_23, evE.eq_24, evE.eq_25, evE.eq_26, evE.eq_27, evE.eq_28, evT, evL, evI, evC, evW, startF, setS, idxD, seqOf, ixN, binD, arI, setI, cmpD, intCmp, cmpI, truD, isAny, isD, isNo, pln, vw, eqD, biD, tidy_same, wipe, toR_nx]⟩) (by rw [ndl_len]; exact lim) (trues_below _ _)
  simp (dsimp := false) (implicitDefEqProofs := false) [b5, e, lstOf, allBl_true, all_true, -List.map_map, exSs, exS, evE.eq_1, evE.eq_2, evE.eq_3, evE.eq_4, evE.eq_5, evE.eq_6, evE.eq_7, evE.eq_8, evE.eq_9, evE.eq_10, evE.eq_11, evE.eq_12, evE.eq_13, evE.eq_14, evE.eq_15, evE.eq_16, evE.eq_17, evE.eq_18, evE.eq_19, evE.eq_20, evE.eq_21, evE.eq_22, evE.eq_23, evE.eq_24, evE.eq_25, evE.eq_26, evE.eq_27, evE.eq_28, evT, evL, evI, evC, evW, startF, setS, idxD, seqOf, ixN, binD, arI, setI, cmpD, intCmp, cmpI, truD, isAny, isD, isNo, pln, vw, eqD, biD, tidy_same, wipe, toR_nx]
theorem f_ints (n : Nat) (l : List Int) (hl : l.length ≤ 1000) (S : Store) : run T (n + 2) 4 [tupI l] S = .ok (.bl true) S := by
  rw [run_def (F := ⟨1, 2, b4, true⟩) rfl rfl]
  have lim := lim_le hl
  have e := lc_map (C := csOf T (n + 1)) (own := [1]) (tg := .nm 1) (it := .seq (.var 0)) (e := b4e0) (ρ := [some (tupI l), none]) (S := S) (l := l.map .int) (g := []) (fun _ => .bl true)
    (by simp (dsimp := false) (implicitDefEqProofs := false) [seqIt, tupI, Ev.guard, exSs, exS, evE.eq_1, evE.eq_2, evE.eq_3, evE.eq_4, evE.eq_5, evE.eq_6, evE.eq_7, evE.eq_8, evE.eq_9, evE.eq_10, evE.eq_11, evE.eq_12, evE.eq_13, evE.eq_14, evE.eq_15, evE.eq_16, evE.eq_17, evE.eq_18, evE.eq_19, evE.eq_20, evE.eq_21, evE.eq_22, evE.eq_23, evE.eq_24, evE.eq_25, evE.eq_26, evE.eq_27, evE.eq_28, evT, evL, evI, evC, evW, startF, setS, idxD, seqOf, ixN, binD, arI, setI, cmpD, intCmp, cmpI, truD, isAny, isD, isNo, pln, vw, eqD, biD, tidy_same, wipe, toR_nx]) (fun c => gOk_nil _) (fun d hd x => ⟨_, rfl, by
      obtain ⟨i, _, rfl⟩ := List.mem_map.mp hd
      simp (dsimp := false) (implicitDefEqProofs := false) [b4e0, f_int, exSs, exS, evE.eq_1, evE.eq_2, evE.eq_3, evE.eq_4, evE.eq_5, evE.eq_6, evE.eq_7, evE.eq_8, evE.eq_9, evE.eq_10, evE.eq_11, evE.eq_12, evE.eq_13, evE.eq_14, evE.eq_15, evE.eq_16, evE.eq_17, evE.eq_18, evE.eq_19, evE.eq_20, evE.eq_21, evE.eq_22, evE.eq_23, evE.eq_24, evE.eq_25, evE.eq_26, evE.eq_27, evE.eq_28, evT, evL, evI, evC, evW, startF, setS, idxD, seqOf, ixN, binD, arI, setI, cmpD, intCmp, cmpI, truD, isAny, isD, isNo, pln, vw, eqD, biD, tidy_same, wipe, toR_nx]⟩) (by simpa using lim) (trues_below _ _)
  unfold tupI at e ⊢
  simp (dsimp := false) (implicitDefEqProofs := false) [b4, e, lstOf, allBl_true, all_true, -List.map_map, exSs, exS, evE.eq_1, evE.eq_2, evE.eq_3, evE.eq_4, evE.eq_5, evE.eq_6, evE.eq_7, evE.eq_8, evE.eq_9, evE.eq_10, evE.eq_11, evE.eq_12, evE.eq_13, evE.eq_14, evE.eq_15, evE.eq_16, evE.eq_17, evE.eq_18, evE.eq_19, evE.eq_20, evE.eq_21, evE.eq_22, evE.eq_23, evE.eq_24, evE.eq_25, evE.eq_26, evE.eq_27, evE.eq_28, evT, evL, evI, evC, evW, startF, setS, idxD, seqOf, ixN, binD, arI, setI, cmpD, intCmp, cmpI, truD, isAny, isD, isNo, pln, vw, eqD, biD, tidy_same, wipe, toR_nx]
/-- two margins -/
structure Mg (l r : List Nat) : Prop where
  ll : l.length ≤ 4
  rl : r.length ≤ 4
  sm : l.sum = r.sum
theorem f_askm (n : Nat) {l r : List Nat} (h : Mg l r) (S : Store) : run T (n + 4) 10 [tn l, tn r] S = .ok .non S := by
  rw [run_def (F := ⟨2, 2, b10, true⟩) rfl rfl]
  have e1 := f_nums n l (by have := h.ll; omega) S
  have e2 := f_nums n r (by have := h.rl; omega) S
  simp (dsimp := false) (implicitDefEqProofs := false) [b10, e1, e2, allInt_ndl, sumI_nd, h.sm, -List.map_map, exSs, exS, evE.eq_1, evE.eq_2, evE.eq_3, evE.eq_4, evE.eq_5, evE.eq_6, evE.eq_7, evE.eq_8, evE.eq_9, evE.eq_10, evE.eq_11, evE.eq_12, evE.eq_13, evE.eq_14, evE.eq_15, evE.eq_16, evE.eq_17, evE.eq_18, evE.eq_19, evE.eq_20, evE.eq_21, evE.eq_22, evE.eq_23, evE.eq_24, evE.eq_25, evE.eq_26, evE.eq_27, evE.eq_28, evT, evL, evI, evC, evW, startF, setS, idxD, seqOf, ixN, binD, arI, setI, cmpD, intCmp, cmpI, truD, isAny, isD, isNo, pln, vw, eqD, biD, tidy_same, wipe, toR_nx]
def PR (m w : Nat) (p : Int) : List (List Int) := List.replicate m (List.replicate w p)
abbrev prD (m w : Nat) (p : Int) : D := .tup ((PR m w p).map tupI)
theorem PR_mem {m w : Nat} {p : Int} {x : List Int} (h : x ∈ PR m w p) : x = List.replicate w p := List.eq_of_mem_replicate h
theorem f_arep (n : Nat) {m w : Nat} (hm : m ≤ 4) (hw : w ≤ 4) (p : Int) (S : Store) : run T (n + 3) 11 [prD m w p, .int (m : Nat), .int (w : Nat)] S = .ok (.bl true) S := by
  rw [run_def (F := ⟨3, 4, b11, true⟩) rfl rfl]
  have lim := lim_le (n := m) (by omega)
  have e := lc_map (C := csOf T (n + 2)) (own := [3]) (tg := .nm 3) (it := .seq (.var 0)) (e := b11e0) (ρ := [some (prD m w p), some (.int (m : Nat)), some (.int (w : Nat)), none]) (S := S) (l := (PR m w p).map tupI) (g := []) (fun _ => .bl true)
    (by simp (dsimp := false) (implicitDefEqProofs := false) [seqIt, Ev.guard, exSs, exS, evE.eq_1, evE.eq_2, evE.eq_3, evE.eq_4, evE.eq_5, evE.eq_6, evE.eq_7, evE.eq_8, evE.eq_9, evE.eq_10, evE.eq_11, evE.eq_12, evE.eq_13, evE.eq_14, evE.eq_15, evE.eq_16, evE.eq_17, evE.eq_18, evE.eq_19, evE.eq_20, evE.eq_21, evE.eq_22, evE.eq_23, evE.eq_24, evE.eq_25, evE.eq_26, evE.eq_27, evE.eq_28, evT, evL, evI, evC, evW, startF, setS, idxD, seqOf, ixN, binD, arI, setI, cmpD, intCmp, cmpI, truD, isAny, isD, isNo, pln, vw, eqD, biD, tidy_same, wipe, toR_nx]) (fun c => gOk_nil _) (fun d hd x => ⟨_, rfl, by
      obtain ⟨y, hy, rfl⟩ := List.mem_map.mp hd
      have e1 := f_ints n y (by rw [PR_mem hy]; simp; omega) (S ++ [x])
      have hl : y.length = w := by rw [PR_mem hy]; simp
      unfold tupI at e1 ⊢
      simp (dsimp := false) (implicitDefEqProofs := false) [b11e0, e1, hl, exSs, exS, evE.eq_1, evE.eq_2, evE.eq_3, evE.eq_4, evE.eq_5, evE.eq_6, evE.eq_7, evE.eq_8, evE.eq_9, evE.eq_10, evE.eq_11, evE.eq_12, evE.eq_13, evE.eq_14, evE.eq_15, evE.eq_16, evE.eq_17, evE.eq_18, evE.eq_19, evE.eq_20, evE.eq_21, evE.eq_22, evE.eq_23, evE.eq_24, evE.eq_25, evE.eq_26, evE.eq_27, evE.eq_28, evT, evL, evI, evC, evW, startF, setS, idxD, seqOf, ixN, binD, arI, setI, cmpD, intCmp, cmpI, truD, isAny, isD, isNo, pln, vw, eqD, biD, tidy_same, wipe, toR_nx]⟩) (by simpa [PR] using lim) (trues_below _ _)
  have hl : (PR m w p).length = m := by simp [PR]
  simp (dsimp := false) (implicitDefEqProofs := false) [b11, hl, e, lstOf, allBl_true, all_true, -List.map_map, exSs, exS, evE.eq_1, evE.eq_2, evE.eq_3, evE.eq_4, evE.eq_5, evE.eq_6, evE.eq_7, evE.eq_8, evE.eq_9, evE.eq_10, evE.eq_11, evE.eq_12, evE.eq_13, evE.eq_14, evE.eq_15, evE.eq_16, evE.eq_17, evE.eq_18, evE.eq_19, evE.eq_20, evE.eq_21, evE.eq_22, evE.eq_23, evE.eq_24, evE.eq_25, evE.eq_26, evE.eq_27, evE.eq_28, evT, evL, evI, evC, evW, startF, setS, idxD, seqOf, ixN, binD, arI, setI, cmpD, intCmp, cmpI, truD, isAny, isD, isNo, pln, vw, eqD, biD, tidy_same, wipe, toR_nx]
theorem f_askp (n : Nat) {l r : List Nat} (h : Mg l r) (p : Int) (S : Store) : run T (n + 5) 12 [tn l, tn r, prD l.length r.length p] S = .ok .non S := by
  rw [run_def (F := ⟨3, 3, b12, true⟩) rfl rfl]
  have e1 := f_askm n h S
  have e2 := f_arep (n + 1) h.ll h.rl p S
  simp (dsimp := false) (implicitDefEqProofs := false) [b12, e1, ndl_len, e2, exSs, exS, evE.eq_1, evE.eq_2, evE.eq_3, evE.eq_4, evE.eq_5, evE.eq_6, evE.eq_7, evE.eq_8, evE.eq_9, evE.eq_10, evE.eq_11, evE.eq_12, evE.eq_13, evE.eq_14, evE.eq_15, evE.eq_16, evE.eq_17, evE.eq_18, evE.eq_19, evE.eq_20, evE.eq_21, evE.eq_22, evE.eq_23, evE.eq_24, evE.eq_25, evE.eq_26, evE.eq_27, evE.eq_28, evT, evL, evI, evC, evW, startF, setS, idxD, seqOf, ixN, binD, arI, setI, cmpD, intCmp, cmpI, truD, isAny, isD, isNo, pln, vw, eqD, biD, tidy_same, wipe, toR_nx]
/-! a right table -/
structure Tb (t : List (List Nat)) (l r : List Nat) : Prop where
  len : t.length = l.length
  row : ∀ i, i < l.length → (t.getD i []).length = r.length ∧ (t.getD i []).sum = l.getD i 0
  col : ∀ j, j < r.length → (t.map fun line => line.getD j 0).sum = r.getD j 0
abbrev tbD (t : List (List Nat)) : D := .tup (t.map tn)
theorem tb_row_loop (n : Nat) (S : Store) (r : List Nat) (hr : r.length ≤ 4) (y0 y1 y5 : Option D) : ∀ (t : List (List Nat)) (l : List Nat) (y3 y4 : Option D), (∀ p ∈ t.zip l, p.1.length = r.length ∧ p.1.sum = p.2) → ∃ z3 z4, forL (.tp [3, 4]) (fun ρ S => exSs (csOf T (n + 3)) b15l1 ρ S) [] (((t.map tn).zip (ndl l)).map fun p => .tup [p.1, p.2]) [y0, y1, some (tn r), y3, y4, y5] S = .nx [y0, y1, some (tn r), z3, z4, y5] S
  | [], l, y3, y4, _ => ⟨y3, y4, by simp [forL_nil]⟩
  | _ :: _, [], y3, y4, _ => ⟨y3, y4, by simp [ndl, forL_nil]⟩
  | line :: t, a :: l, y3, y4, h => by
    obtain ⟨h1, h2⟩ := h (line, a) (by simp)
    obtain ⟨z3, z4, e⟩ := tb_row_loop n S r hr y0 y1 y5 t l (some (tn line)) (some (.int (a : Nat))) fun p hp => h p (by simp [hp])
    refine ⟨z3, z4, ?_⟩
    have e1 := f_nums n line (by simp at h1; omega) S
    simp only [] at h1 h2
    rw [← e]
    show forL _ _ _ (.tup [tn line, .int (a : Nat)] :: _) _ _ = _
    exact forL_nx rfl (by simp (dsimp := false) (implicitDefEqProofs := false) [b15l1, e1, ndl_len, h1, allInt_ndl, sumI_nd, h2, -List.map_map, exSs, exS, evE.eq_1, evE.eq_2, evE.eq_3, evE.eq_4, evE.eq_5, evE.eq_6, evE.eq_7, evE.eq_8, evE.eq_9, evE.eq_10, evE.eq_11, evE.eq_12, evE.eq_13, evE.eq_14, evE.eq_15, evE.eq_16, evE.eq_17, evE.eq_18, evE.eq_19, evE.eq_20, evE.eq_21, evE.eq_22, evE.eq_23, evE.eq_24, evE.eq_25, evE.eq_26, evE.eq_27, evE.eq_28, evT, evL, evI, evC, evW, startF, setS, idxD, seqOf, ixN, binD, arI, setI, cmpD, intCmp, cmpI, truD, isAny, isD, isNo, pln, vw, eqD, biD, tidy_same, wipe, toR_nx])
theorem tb_col_loop (n : Nat) (S : Store) {t : List (List Nat)} (ht : t.length ≤ 4) (y1 y2 y3 : Option D) : ∀ (L : List Nat) (j : Nat) (y4 y5 : Option D), (∀ k, k < L.length → (∀ line ∈ t, j + k < line.length) ∧ (t.map fun line => line.getD (j + k) 0).sum = L.getD k 0) → ∃ z4 z5, forL (.tp [5, 4]) (fun ρ S => exSs (csOf T (n + 1)) b15l0 ρ S) [] (enmL (j : Nat) (ndl L)) [some (tbD t), y1, y2, y3, y4, y5] S = .nx [some (tbD t), y1, y2, y3, z4, z5] S
  | [], j, y4, y5, _ => ⟨y4, y5, by simp [ndl, enmL, forL_nil]⟩
  | a :: L, j, y4, y5, h => by
    obtain ⟨h1, h2⟩ := h 0 (by simp)
    obtain ⟨z4, z5, e⟩ := tb_col_loop n S ht y1 y2 y3 L (j + 1) (some (.int (a : Nat))) (some (.int (j : Nat))) fun k hk => by
      have := h (k + 1) (by simpa using hk)
      simp only [List.getD_cons_succ] at this
      rw [show j + 1 + k = j + (k + 1) by omega]
      exact this
    refine ⟨z4, z5, ?_⟩
    push_cast at e
    rw [← e]
    show forL _ _ _ (.tup [.int (j : Nat), .int (a : Nat)] :: _) _ _ = _
    simp only [Nat.add_zero, List.getD_cons_zero] at h1 h2
    have lim := lim_le (n := t.length) (by omega)
    have em : (t.map tn).map (fun d => match d with
        | .tup l => (l[j]?).getD .non
        | _ => .non) = ndl (t.map fun line => line.getD j 0) := by
      unfold ndl
      rw [List.map_map, List.map_map]
      refine List.map_congr_left fun line hl => ?_
      have := h1 line hl
      simp [ndl, this]
    have ec := lc_map (C := csOf T (n + 1)) (own := [3]) (tg := .nm 3) (it := .seq (.var 0)) (e := b15e0) (ρ := [some (tbD t), y1, y2, y3, some (.int (a : Nat)), some (.int (j : Nat))]) (S := S) (l := t.map tn) (g := []) (fun d => match d with
        | .tup l => (l[j]?).getD .non
        | _ => .non) (by simp (dsimp := false) (implicitDefEqProofs := false) [seqIt, Ev.guard, exSs, exS, evE.eq_1, evE.eq_2, evE.eq_3, evE.eq_4, evE.eq_5, evE.eq_6, evE.eq_7, evE.eq_8, evE.eq_9, evE.eq_10, evE.eq_11, evE.eq_12, evE.eq_13, evE.eq_14, evE.eq_15, evE.eq_16, evE.eq_17, evE.eq_18, evE.eq_19, evE.eq_20, evE.eq_21, evE.eq_22, evE.eq_23, evE.eq_24, evE.eq_25, evE.eq_26, evE.eq_27, evE.eq_28, evT, evL, evI, evC, evW, startF, setS, idxD, seqOf, ixN, binD, arI, setI, cmpD, intCmp, cmpI, truD, isAny, isD, isNo, pln, vw, eqD, biD, tidy_same, wipe, toR_nx]) (fun c => gOk_nil _) (fun d hd x => ⟨_, rfl, by
        obtain ⟨line, hl, rfl⟩ := List.mem_map.mp hd
        have h3 := h1 line hl
        have g := ndl_get h3
        have h3' : (j : Int) < line.length := by omega
        simp (dsimp := false) (implicitDefEqProofs := false) [b15e0, ndl_len, h3', g, -List.getD_eq_getElem?_getD, exSs, exS, evE.eq_1, evE.eq_2, evE.eq_3, evE.eq_4, evE.eq_5, evE.eq_6, evE.eq_7, evE.eq_8, evE.eq_9, evE.eq_10, evE.eq_11, evE.eq_12, evE.eq_13, evE.eq_14, evE.eq_15, evE.eq_16, evE.eq_17, evE.eq_18, evE.eq_19, evE.eq_20, evE.eq_21, evE.eq_22, evE.eq_23, evE.eq_24, evE.eq_25, evE.eq_26, evE.eq_27, evE.eq_28, evT, evL, evI, evC, evW, startF, setS, idxD, seqOf, ixN, binD, arI, setI, cmpD, intCmp, cmpI, truD, isAny, isD, isNo, pln, vw, eqD, biD, tidy_same, wipe, toR_nx]⟩) (by simpa using lim) (by rw [em]; exact ndl_below _ _)
    rw [em] at ec
    exact forL_nx rfl (by simp (dsimp := false) (implicitDefEqProofs := false) [b15l0, ec, lstOf, allInt_ndl, sumI_nd, h2, -List.map_map, -List.getD_eq_getElem?_getD, exSs, exS, evE.eq_1, evE.eq_2, evE.eq_3, evE.eq_4, evE.eq_5, evE.eq_6, evE.eq_7, evE.eq_8, evE.eq_9, evE.eq_10, evE.eq_11, evE.eq_12, evE.eq_13, evE.eq_14, evE.eq_15, evE.eq_16, evE.eq_17, evE.eq_18, evE.eq_19, evE.eq_20, evE.eq_21, evE.eq_22, evE.eq_23, evE.eq_24, evE.eq_25, evE.eq_26, evE.eq_27, evE.eq_28, evT, evL, evI, evC, evW, startF, setS, idxD, seqOf, ixN, binD, arI, setI, cmpD, intCmp, cmpI, truD, isAny, isD, isNo, pln, vw, eqD, biD, tidy_same, wipe, toR_nx])
theorem f_istab (n : Nat) {t : List (List Nat)} {l r : List Nat} (hm : Mg l r) (h : Tb t l r) (S : Store) : run T (n + 4) 15 [tbD t, tn l, tn r] S = .ok (.bl true) S := by
  rw [run_def (F := ⟨3, 6, b15, true⟩) rfl rfl]
  have hl := h.len
  obtain ⟨z3, z4, e1⟩ := tb_row_loop n S r hm.rl (some (tbD t)) (some (tn l)) none t l none none fun p hp => by
    obtain ⟨i, hi, rfl⟩ := List.mem_iff_getElem.mp hp
    rw [List.length_zip] at hi
    have h1 : i < t.length := by omega
    have h2 : i < l.length := by omega
    have := h.row i h2
    simp [h1, h2] at this
    simpa using this
  obtain ⟨w4, w5, e2⟩ := tb_col_loop (n + 2) S (t := t) (by rw [hl]; exact hm.ll) (some (tn l)) (some (tn r)) z3 r 0 z4 none fun k hk => by
    refine ⟨fun line hline => ?_, by rw [Nat.zero_add]; exact h.col k hk⟩
    obtain ⟨i, hi, rfl⟩ := List.mem_iff_getElem.mp hline
    have := (h.row i (by omega)).1
    simp [hi] at this
    omega
  have z0 : ((0 : Nat) : Int) = 0 := rfl
  rw [z0] at e2
  simp (dsimp := false) (implicitDefEqProofs := false) [b15, hl, ndl_len, zipIt, e1, enmIt, Ev.guard, e2, exSs, exS, evE.eq_1, evE.eq_2, evE.eq_3, evE.eq_4, evE.eq_5, evE.eq_6, evE.eq_7, evE.eq_8, evE.eq_9, evE.eq_10, evE.eq_11, evE.eq_12, evE.eq_13, evE.eq_14, evE.eq_15, evE.eq_16, evE.eq_17, evE.eq_18, evE.eq_19, evE.eq_20, evE.eq_21, evE.eq_22, evE.eq_23, evE.eq_24, evE.eq_25, evE.eq_26, evE.eq_27, evE.eq_28, evT, evL, evI, evC, evW, startF, setS, idxD, seqOf, ixN, binD, arI, setI, cmpD, intCmp, cmpI, truD, isAny, isD, isNo, pln, vw, eqD, biD, tidy_same, wipe, toR_nx]
/-! costs -/
theorem mem_le_sum {l : List Nat} {x : Nat} (h : x ∈ l) : x ≤ l.sum := by
  induction l with
  | nil => simp at h
  | cons a l ih =>
    rw [List.sum_cons]
    rcases List.mem_cons.mp h with rfl | h
    · omega
    · have := ih h
      omega
theorem sum_mul (p : Int) : ∀ l : List Nat, sumI (l.map fun m => p * ((m : Nat) : Int)) = p * ((l.sum : Nat) : Int)
  | [] => by simp [sumI]
  | a :: l => by
    simp only [List.map_cons, sumI, sum_mul p l, List.sum_cons]
    push_cast
    rw [Int.mul_add]
theorem zip_rep (p : Int) : ∀ (w : Nat) (l : List Nat), l.length = w → (((List.replicate w p).map D.int).zip (ndl l)) = l.map fun m => (D.int p, D.int (m : Nat))
  | 0, [], _ => rfl
  | w + 1, a :: l, h => by
    have := zip_rep p w l (by simpa using h)
    show (D.int p, D.int (a : Nat)) :: ((List.replicate w p).map D.int).zip (ndl l) = _
    rw [this]
    rfl
def mulD : D → D
  | .tup [.int a, .int b] => .int (a * b)
  | _ => .non
theorem co_loop (n : Nat) (S : Store) {w : Nat} (hw : w ≤ 4) {p : Int} (hp : p.natAbs < 2 ^ 100) (y0 y1 : Option D) : ∀ (t : List (List Nat)) (m : Nat) (c : Int) (y3 y4 : Option D), t.length = m → (∀ line ∈ t, line.length = w ∧ line.sum < 2 ^ 100) → ∃ z3 z4, forL (.tp [3, 4]) (fun ρ S => exSs (csOf T (n + 1)) b16l0 ρ S) [] (((t.map tn).zip ((PR m w p).map tupI)).map fun q => .tup [q.1, q.2]) [y0, y1, some (.int c), y3, y4, none, none] S = .nx [y0, y1, some (.int (c + p * ((t.map List.sum).sum : Nat))), z3, z4, none, none] S
  | [], m, c, y3, y4, hm, _ => ⟨y3, y4, by simp [forL_nil]⟩
  | line :: t, 0, c, y3, y4, hm, _ => by simp at hm
  | line :: t, m + 1, c, y3, y4, hm, h => by
    obtain ⟨h1, h2⟩ := h line (by simp)
    obtain ⟨z3, z4, e⟩ := co_loop n S hw hp y0 y1 t m (c + p * (line.sum : Nat)) (some (tn line)) (some (tupI (List.replicate w p))) (by simpa using hm) fun x hx => h x (by simp [hx])
    refine ⟨z3, z4, ?_⟩
    have ec : c + p * (((line :: t).map List.sum).sum : Nat) = c + p * (line.sum : Nat) + p * ((t.map List.sum).sum : Nat) := by
      rw [List.map_cons, List.sum_cons]
      push_cast
      rw [Int.mul_add]
      omega
    rw [ec, ← e]
    show forL _ _ _ (.tup [tn line, tupI (List.replicate w p)] :: _) _ _ = _
    have lim := lim_le (n := line.length) (by omega)
    have zi : ((((List.replicate w p).map D.int).zip (ndl line)).map fun q => D.tup [q.1, q.2]) = line.map fun m => D.tup [.int p, .int (m : Nat)] := by
      rw [zip_rep p w line h1, List.map_map]
      rfl
    have em : (line.map fun m => D.tup [.int p, .int (m : Nat)]).map mulD = (line.map fun m => p * ((m : Nat) : Int)).map .int := by
      rw [List.map_map, List.map_map]
      rfl
    have ee := lc_map (C := csOf T (n + 1)) (own := [5, 6]) (tg := .tp [5, 6]) (it := .zip (.var 4) (.var 3)) (e := b16e0) (ρ := [y0, y1, some (.int c), some (tn line), some (tupI (List.replicate w p)), none, none]) (S := S) (l := line.map fun m => D.tup [.int p, .int (m : Nat)]) (g := []) mulD (by simp (dsimp := false) (implicitDefEqProofs := false) [zipIt, tupI, zi, -List.map_replicate, exSs, exS, evE.eq_1, evE.eq_2, evE.eq_3, evE.eq_4, evE.eq_5, evE.eq_6, evE.eq_7, evE.eq_8, evE.eq_9, evE.eq_10, evE.eq_11, evE.eq_12, evE.eq_13, evE.eq_14, evE.eq_15, evE.eq_16, evE.eq_17, evE.eq_18, evE.eq_19, evE.eq_20, evE.eq_21, evE.eq_22, evE.eq_23, evE.eq_24, evE.eq_25, evE.eq_26, evE.eq_27, evE.eq_28, evT, evL, evI, evC, evW, startF, setS, idxD, seqOf, ixN, binD, arI, setI, cmpD, intCmp, cmpI, truD, isAny, isD, isNo, pln, vw, eqD, biD, tidy_same, wipe, toR_nx]) (fun c => gOk_nil _) (fun d hd x => by
        obtain ⟨m, hm2, rfl⟩ := List.mem_map.mp hd
        have w1 : p.natAbs < Wd := wd_n (by omega)
        have ms : m ≤ line.sum := mem_le_sum hm2
        have w2 : m < Wd := wd_n (by omega)
        exact ⟨_, rfl, by simp (dsimp := false) (implicitDefEqProofs := false) [b16e0, w1, w2, mulD, exSs, exS, evE.eq_1, evE.eq_2, evE.eq_3, evE.eq_4, evE.eq_5, evE.eq_6, evE.eq_7, evE.eq_8, evE.eq_9, evE.eq_10, evE.eq_11, evE.eq_12, evE.eq_13, evE.eq_14, evE.eq_15, evE.eq_16, evE.eq_17, evE.eq_18, evE.eq_19, evE.eq_20, evE.eq_21, evE.eq_22, evE.eq_23, evE.eq_24, evE.eq_25, evE.eq_26, evE.eq_27, evE.eq_28, evT, evL, evI, evC, evW, startF, setS, idxD, seqOf, ixN, binD, arI, setI, cmpD, intCmp, cmpI, truD, isAny, isD, isNo, pln, vw, eqD, biD, tidy_same, wipe, toR_nx]⟩) (by simpa using lim) (by rw [em]; exact belowL_ints _ _)
    rw [em] at ee
    have sm := sum_mul p line
    have ai := allInt_ints (line.map fun m => p * ((m : Nat) : Int))
    exact forL_nx rfl (by simp (dsimp := false) (implicitDefEqProofs := false) [b16l0, ee, lstOf, ai, sm, augV, valS, -List.map_map, exSs, exS, evE.eq_1, evE.eq_2, evE.eq_3, evE.eq_4, evE.eq_5, evE.eq_6, evE.eq_7, evE.eq_8, evE.eq_9, evE.eq_10, evE.eq_11, evE.eq_12, evE.eq_13, evE.eq_14, evE.eq_15, evE.eq_16, evE.eq_17, evE.eq_18, evE.eq_19, evE.eq_20, evE.eq_21, evE.eq_22, evE.eq_23, evE.eq_24, evE.eq_25, evE.eq_26, evE.eq_27, evE.eq_28, evT, evL, evI, evC, evW, startF, setS, idxD, seqOf, ixN, binD, arI, setI, cmpD, intCmp, cmpI, truD, isAny, isD, isNo, pln, vw, eqD, biD, tidy_same, wipe, toR_nx])
theorem f_cost (n : Nat) {t : List (List Nat)} {l r : List Nat} (hm : Mg l r) (h : Tb t l r) (hb : l.sum < 2 ^ 100) {p : Int} (hp : p.natAbs < 2 ^ 100) (S : Store) : run T (n + 2) 16 [tbD t, prD l.length r.length p] S = .ok (.int (p * (l.sum : Nat))) S := by
  rw [run_def (F := ⟨2, 7, b16, true⟩) rfl rfl]
  have rows : (t.map List.sum) = l := by
    apply List.ext_getElem
    · simp [h.len]
    · intro i h1 h2
      have h3 : i < t.length := by simpa using h1
      have := (h.row i h2).2
      simp [h3, h2] at this
      simpa using this
  obtain ⟨z3, z4, e⟩ := co_loop n S hm.rl hp (some (tbD t)) (some (prD l.length r.length p)) t l.length 0 none none h.len fun line hl => by
    obtain ⟨i, hi, rfl⟩ := List.mem_iff_getElem.mp hl
    have h2 : i < l.length := by rw [← h.len]; exact hi
    have := h.row i h2
    simp [hi, h2] at this
    refine ⟨this.1, ?_⟩
    rw [this.2]
    have : l[i] ≤ l.sum := mem_le_sum (List.getElem_mem h2)
    omega
  rw [rows, Int.zero_add] at e
  simp (dsimp := false) (implicitDefEqProofs := false) [b16, zipIt, e, exSs, exS, evE.eq_1, evE.eq_2, evE.eq_3, evE.eq_4, evE.eq_5, evE.eq_6, evE.eq_7, evE.eq_8, evE.eq_9, evE.eq_10, evE.eq_11, evE.eq_12, evE.eq_13, evE.eq_14, evE.eq_15, evE.eq_16, evE.eq_17, evE.eq_18, evE.eq_19, evE.eq_20, evE.eq_21, evE.eq_22, evE.eq_23, evE.eq_24, evE.eq_25, evE.eq_26, evE.eq_27, evE.eq_28, evT, evL, evI, evC, evW, startF, setS, idxD, seqOf, ixN, binD, arI, setI, cmpD, intCmp, cmpI, truD, isAny, isD, isNo, pln, vw, eqD, biD, tidy_same, wipe, toR_nx]
end Lw
end
section
set_option maxRecDepth 100000
set_option maxHeartbeats 8000000
namespace Lw
open Ev Lg
abbrev ppD (m w : Nat) (p : Int) : D := .tup [tupI (List.replicate m p), tupI (List.replicate w 0)]
theorem f_pair (n : Nat) (a b : D) (S : Store) : run T (n + 1) 3 [.tup [a, b]] S = .ok (.bl true) S := by
  rw [run_def (F := ⟨1, 1, b3, true⟩) rfl rfl]
  simp (dsimp := false) (implicitDefEqProofs := false) [b3, exSs, exS, evE.eq_1, evE.eq_2, evE.eq_3, evE.eq_4, evE.eq_5, evE.eq_6, evE.eq_7, evE.eq_8, evE.eq_9, evE.eq_10, evE.eq_11, evE.eq_12, evE.eq_13, evE.eq_14, evE.eq_15, evE.eq_16, evE.eq_17, evE.eq_18, evE.eq_19, evE.eq_20, evE.eq_21, evE.eq_22, evE.eq_23, evE.eq_24, evE.eq_25, evE.eq_26, evE.eq_27, evE.eq_28, evT, evL, evI, evC, evW, startF, setS, idxD, seqOf, ixN, binD, arI, setI, cmpD, intCmp, cmpI, truD, isAny, isD, isNo, pln, vw, eqD, biD, tidy_same, wipe, toR_nx]
theorem f_shape (n : Nat) {m w : Nat} (hm : m ≤ 4) (hw : w ≤ 4) (p : Int) (S : Store) : run T (n + 3) 17 [ppD m w p, .int (m : Nat), .int (w : Nat)] S = .ok (.bl true) S := by
  rw [run_def (F := ⟨3, 3, b17, true⟩) rfl rfl]
  have e1 := f_pair (n + 1) (tupI (List.replicate m p)) (tupI (List.replicate w 0)) S
  have e2 := f_ints n (List.replicate m p) (by simp; omega) S
  have e3 := f_ints n (List.replicate w 0) (by simp; omega) S
  unfold tupI at e1 e2 e3
  unfold ppD tupI
  simp (dsimp := false) (implicitDefEqProofs := false) [b17, e1, e2, e3, -List.map_replicate, exSs, exS, evE.eq_1, evE.eq_2, evE.eq_3, evE.eq_4, evE.eq_5, evE.eq_6, evE.eq_7, evE.eq_8, evE.eq_9, evE.eq_10, evE.eq_11, evE.eq_12, evE.eq_13, evE.eq_14, evE.eq_15, evE.eq_16, evE.eq_17, evE.eq_18, evE.eq_19, evE.eq_20, evE.eq_21, evE.eq_22, evE.eq_23, evE.eq_24, evE.eq_25, evE.eq_26, evE.eq_27, evE.eq_28, evT, evL, evI, evC, evW, startF, setS, idxD, seqOf, ixN, binD, arI, setI, cmpD, intCmp, cmpI, truD, isAny, isD, isNo, pln, vw, eqD, biD, tidy_same, wipe, toR_nx]
theorem rep_get {w j : Nat} (p : Int) (h : j < w) : ((List.replicate w p).map D.int)[j]? = some (.int p) := by simp [h]
theorem be_in (n : Nat) (S : Store) {m w i : Nat} (hi : i < m) (p : Int) (y2 y4 : Option D) : ∀ (k j : Nat) (y5 y6 : Option D), j + k = w → ∃ z5 z6, forL (.tp [5, 6]) (fun ρ S => exSs (csOf T (n + 1)) b18l0 ρ S) [] (enmL (j : Nat) ((List.replicate k p).map .int)) [some (tupI (List.replicate m p)), some (tupI (List.replicate w 0)), y2, some (.int (i : Nat)), y4, y5, y6] S = .nx [some (tupI (List.replicate m p)), some (tupI (List.replicate w 0)), y2, some (.int (i : Nat)), y4, z5, z6] S
  | 0, j, y5, y6, _ => ⟨y5, y6, by simp [enmL, forL_nil]⟩
  | k + 1, j, y5, y6, h => by
    obtain ⟨z5, z6, e⟩ := be_in n S (w := w) hi p y2 y4 k (j + 1) (some (.int (j : Nat))) (some (.int p)) (by omega)
    refine ⟨z5, z6, ?_⟩
    push_cast at e
    rw [← e, List.replicate_succ, List.map_cons, enmL]
    have hj : j < w := by omega
    have g1 := rep_get p hi
    have g2 := rep_get 0 hj
    have hi' : (i : Int) < m := by omega
    have hj' : (j : Int) < w := by omega
    exact forL_nx rfl (by simp (dsimp := false) (implicitDefEqProofs := false) [b18l0, tupI, hi', hj', g1, g2, -List.map_replicate, -List.getElem?_map, exSs, exS, evE.eq_1, evE.eq_2, evE.eq_3, evE.eq_4, evE.eq_5, evE.eq_6, evE.eq_7, evE.eq_8, evE.eq_9, evE.eq_10, evE.eq_11, evE.eq_12, evE.eq_13, evE.eq_14, evE.eq_15, evE.eq_16, evE.eq_17, evE.eq_18, evE.eq_19, evE.eq_20, evE.eq_21, evE.eq_22, evE.eq_23, evE.eq_24, evE.eq_25, evE.eq_26, evE.eq_27, evE.eq_28, evT, evL, evI, evC, evW, startF, setS, idxD, seqOf, ixN, binD, arI, setI, cmpD, intCmp, cmpI, truD, isAny, isD, isNo, pln, vw, eqD, biD, tidy_same, wipe, toR_nx])
theorem be_out (n : Nat) (S : Store) {m w : Nat} (hw : w ≤ 4) (p : Int) (y2 : Option D) : ∀ (k i : Nat) (y3 y4 y5 y6 : Option D), i + k = m → ∃ z3 z4 z5 z6, forL (.tp [3, 4]) (fun ρ S => exSs (csOf T (n + 1)) b18l1 ρ S) [] (enmL (i : Nat) ((PR k w p).map tupI)) [some (tupI (List.replicate m p)), some (tupI (List.replicate w 0)), y2, y3, y4, y5, y6] S = .nx [some (tupI (List.replicate m p)), some (tupI (List.replicate w 0)), y2, z3, z4, z5, z6] S
  | 0, i, y3, y4, y5, y6, _ => ⟨y3, y4, y5, y6, by simp [PR, enmL, forL_nil]⟩
  | k + 1, i, y3, y4, y5, y6, h => by
    obtain ⟨z5, z6, e1⟩ := be_in n S (m := m) (w := w) (i := i) (by omega) p y2 (some (tupI (List.replicate w p))) w 0 y5 y6 (by omega)
    obtain ⟨w3, w4, w5, w6, e2⟩ := be_out n S (m := m) hw p y2 k (i + 1) (some (.int (i : Nat))) (some (tupI (List.replicate w p))) z5 z6 (by omega)
    refine ⟨w3, w4, w5, w6, ?_⟩
    push_cast at e2
    rw [← e2]
    show forL _ _ _ (.tup [.int (i : Nat), tupI (List.replicate w p)] :: enmL ((i : Int) + 1) ((PR k w p).map tupI)) _ _ = _
    have z0 : ((0 : Nat) : Int) = 0 := rfl
    rw [z0] at e1
    unfold tupI at e1 ⊢
    exact forL_nx rfl (by simp (dsimp := false) (implicitDefEqProofs := false) [b18l1, enmIt, Ev.guard, e1, -List.map_replicate, exSs, exS, evE.eq_1, evE.eq_2, evE.eq_3, evE.eq_4, evE.eq_5, evE.eq_6, evE.eq_7, evE.eq_8, evE.eq_9, evE.eq_10, evE.eq_11, evE.eq_12, evE.eq_13, evE.eq_14, evE.eq_15, evE.eq_16, evE.eq_17, evE.eq_18, evE.eq_19, evE.eq_20, evE.eq_21, evE.eq_22, evE.eq_23, evE.eq_24, evE.eq_25, evE.eq_26, evE.eq_27, evE.eq_28, evT, evL, evI, evC, evW, startF, setS, idxD, seqOf, ixN, binD, arI, setI, cmpD, intCmp, cmpI, truD, isAny, isD, isNo, pln, vw, eqD, biD, tidy_same, wipe, toR_nx])
theorem f_below (n : Nat) {m w : Nat} (hw : w ≤ 4) (p : Int) (S : Store) : run T (n + 2) 18 [tupI (List.replicate m p), tupI (List.replicate w 0), prD m w p] S = .ok (.bl true) S := by
  rw [run_def (F := ⟨3, 7, b18, true⟩) rfl rfl]
  obtain ⟨z3, z4, z5, z6, e⟩ := be_out n S (m := m) hw p (some (prD m w p)) m 0 none none none none (by omega)
  have z0 : ((0 : Nat) : Int) = 0 := rfl
  rw [z0] at e
  simp (dsimp := false) (implicitDefEqProofs := false) [b18, enmIt, Ev.guard, e, exSs, exS, evE.eq_1, evE.eq_2, evE.eq_3, evE.eq_4, evE.eq_5, evE.eq_6, evE.eq_7, evE.eq_8, evE.eq_9, evE.eq_10, evE.eq_11, evE.eq_12, evE.eq_13, evE.eq_14, evE.eq_15, evE.eq_16, evE.eq_17, evE.eq_18, evE.eq_19, evE.eq_20, evE.eq_21, evE.eq_22, evE.eq_23, evE.eq_24, evE.eq_25, evE.eq_26, evE.eq_27, evE.eq_28, evT, evL, evI, evC, evW, startF, setS, idxD, seqOf, ixN, binD, arI, setI, cmpD, intCmp, cmpI, truD, isAny, isD, isNo, pln, vw, eqD, biD, tidy_same, wipe, toR_nx]
theorem f_worth (n : Nat) {l : List Nat} (hl : l.length ≤ 4) (hb : l.sum < 2 ^ 100) {p : Int} (hp : p.natAbs < 2 ^ 100) (S : Store) : run T (n + 1) 19 [tupI (List.replicate l.length p), tn l] S = .ok (.int (p * (l.sum : Nat))) S := by
  rw [run_def (F := ⟨2, 4, b19, true⟩) rfl rfl]
  have lim := lim_le (n := l.length) (by omega)
  have zi : ((((List.replicate l.length p).map D.int).zip (ndl l)).map fun q => D.tup [q.1, q.2]) = l.map fun m => D.tup [.int p, .int (m : Nat)] := by
    rw [zip_rep p l.length l rfl, List.map_map]
    rfl
  have em : (l.map fun m => D.tup [.int p, .int (m : Nat)]).map mulD = (l.map fun m => p * ((m : Nat) : Int)).map .int := by
    rw [List.map_map, List.map_map]
    rfl
  have ee := lc_map (C := csOf T n) (own := [2, 3]) (tg := .tp [2, 3]) (it := .zip (.var 0) (.var 1)) (e := b19e0) (ρ := [some (tupI (List.replicate l.length p)), some (tn l), none, none]) (S := S) (l := l.map fun m => D.tup [.int p, .int (m : Nat)]) (g := []) mulD (by simp (dsimp := false) (implicitDefEqProofs := false) [zipIt, tupI, zi, -List.map_replicate, exSs, exS, evE.eq_1, evE.eq_2, evE.eq_3, evE.eq_4, evE.eq_5, evE.eq_6, evE.eq_7, evE.eq_8, evE.eq_9, evE.eq_10, evE.eq_11, evE.eq_12, evE.eq_13, evE.eq_14, evE.eq_15, evE.eq_16, evE.eq_17, evE.eq_18, evE.eq_19, evE.eq_20, evE.eq_21, evE.eq_22, evE.eq_23, evE.eq_24, evE.eq_25, evE.eq_26, evE.eq_27, evE.eq_28, evT, evL, evI, evC, evW, startF, setS, idxD, seqOf, ixN, binD, arI, setI, cmpD, intCmp, cmpI, truD, isAny, isD, isNo, pln, vw, eqD, biD, tidy_same, wipe, toR_nx]) (fun c => gOk_nil _) (fun d hd x => by
      obtain ⟨m, hm2, rfl⟩ := List.mem_map.mp hd
      have w1 : p.natAbs < Wd := wd_n (by omega)
      have ms : m ≤ l.sum := mem_le_sum hm2
      have w2 : m < Wd := wd_n (by omega)
      exact ⟨_, rfl, by simp (dsimp := false) (implicitDefEqProofs := false) [b19e0, w1, w2, mulD, exSs, exS, evE.eq_1, evE.eq_2, evE.eq_3, evE.eq_4, evE.eq_5, evE.eq_6, evE.eq_7, evE.eq_8, evE.eq_9, evE.eq_10, evE.eq_11, evE.eq_12, evE.eq_13, evE.eq_14, evE.eq_15, evE.eq_16, evE.eq_17, evE.eq_18, evE.eq_19, evE.eq_20, evE.eq_21, evE.eq_22, evE.eq_23, evE.eq_24, evE.eq_25, evE.eq_26, evE.eq_27, evE.eq_28, evT, evL, evI, evC, evW, startF, setS, idxD, seqOf, ixN, binD, arI, setI, cmpD, intCmp, cmpI, truD, isAny, isD, isNo, pln, vw, eqD, biD, tidy_same, wipe, toR_nx]⟩) (by simpa using lim) (by rw [em]; exact belowL_ints _ _)
  rw [em] at ee
  have sm := sum_mul p l
  have ai := allInt_ints (l.map fun m => p * ((m : Nat) : Int))
  simp (dsimp := false) (implicitDefEqProofs := false) [b19, ee, lstOf, ai, sm, -List.map_map, exSs, exS, evE.eq_1, evE.eq_2, evE.eq_3, evE.eq_4, evE.eq_5, evE.eq_6, evE.eq_7, evE.eq_8, evE.eq_9, evE.eq_10, evE.eq_11, evE.eq_12, evE.eq_13, evE.eq_14, evE.eq_15, evE.eq_16, evE.eq_17, evE.eq_18, evE.eq_19, evE.eq_20, evE.eq_21, evE.eq_22, evE.eq_23, evE.eq_24, evE.eq_25, evE.eq_26, evE.eq_27, evE.eq_28, evT, evL, evI, evC, evW, startF, setS, idxD, seqOf, ixN, binD, arI, setI, cmpD, intCmp, cmpI, truD, isAny, isD, isNo, pln, vw, eqD, biD, tidy_same, wipe, toR_nx]
/-- the judge: a right table of the margins, all prices alike -/
theorem f_holds (n : Nat) {t : List (List Nat)} {l r : List Nat} (hm : Mg l r) (h : Tb t l r) (hb : l.sum < 2 ^ 100) {p : Int} (hp : p.natAbs < 2 ^ 100) (c : Int) (S : Store) :
    run T (n + 6) 20 [tn l, tn r, prD l.length r.length p, .int c, tbD t, ppD l.length r.length p] S = .ok (.bl (decide (c = p * (l.sum : Nat)))) S := by
  have e1 := f_askp n hm p S
  have e2 := f_int (n + 4) c S
  have e3 := f_istab (n + 1) hm h S
  have e4 := f_cost (n + 3) hm h hb hp S
  have e5 := f_shape (n + 2) hm.ll hm.rl p S
  have e6 := f_below (n + 3) (m := l.length) hm.rl p S
  have e7 := f_worth (n + 4) hm.ll hb hp S
  have e8 := f_worth (n + 4) (l := r) hm.rl (by rw [← hm.sm]; exact hb) (p := 0) (by decide) S
  have z : p * (l.sum : Nat) + 0 * (r.sum : Nat) = p * (l.sum : Nat) := by rw [Int.zero_mul]; omega
  rw [run_def (F := ⟨6, 8, b20, true⟩) rfl rfl]
  by_cases hc : c = p * (l.sum : Nat)
  · have hd : decide (c = p * (l.sum : Nat)) = true := by simpa using hc
    rw [hd]
    rw [← hc] at e4 e7 z
    simp (dsimp := false) (implicitDefEqProofs := false) [b20, e1, e2, e3, e4, ndl_len, e5, setT, setAll, e6, e7, e8, z, -Int.zero_mul, exSs, exS, evE.eq_1, evE.eq_2, evE.eq_3, evE.eq_4, evE.eq_5, evE.eq_6, evE.eq_7, evE.eq_8, evE.eq_9, evE.eq_10, evE.eq_11, evE.eq_12, evE.eq_13, evE.eq_14, evE.eq_15, evE.eq_16, evE.eq_17, evE.eq_18, evE.eq_19, evE.eq_20, evE.eq_21, evE.eq_22, evE.eq_23, evE.eq_24, evE.eq_25, evE.eq_26, evE.eq_27, evE.eq_28, evT, evL, evI, evC, evW, startF, setS, idxD, seqOf, ixN, binD, arI, setI, cmpD, intCmp, cmpI, truD, isAny, isD, isNo, pln, vw, eqD, biD, tidy_same, wipe, toR_nx]
  · have hd : decide (c = p * (l.sum : Nat)) = false := by simpa using hc
    rw [hd]
    have hne : ((p * (l.sum : Nat) : Int) == c) = false := beq_eq_false_iff_ne.mpr (fun z => hc z.symm)
    generalize p * (l.sum : Nat) = q at e4 hne
    simp (dsimp := false) (implicitDefEqProofs := false) [b20, e1, e2, e3, e4, hne, exSs, exS, evE.eq_1, evE.eq_2, evE.eq_3, evE.eq_4, evE.eq_5, evE.eq_6, evE.eq_7, evE.eq_8, evE.eq_9, evE.eq_10, evE.eq_11, evE.eq_12, evE.eq_13, evE.eq_14, evE.eq_15, evE.eq_16, evE.eq_17, evE.eq_18, evE.eq_19, evE.eq_20, evE.eq_21, evE.eq_22, evE.eq_23, evE.eq_24, evE.eq_25, evE.eq_26, evE.eq_27, evE.eq_28, evT, evL, evI, evC, evW, startF, setS, idxD, seqOf, ixN, binD, arI, setI, cmpD, intCmp, cmpI, truD, isAny, isD, isNo, pln, vw, eqD, biD, tidy_same, wipe, toR_nx]
end Lw
end
section
set_option maxRecDepth 100000
set_option maxHeartbeats 8000000
namespace Lw
open Ev Lg
theorem ag (S W : Store) (k : Nat) : (S ++ W)[S.length + k]? = W[k]? := by rw [List.getElem?_append_right (by omega)]; congr 1; omega
theorem as (S W : Store) (k : Nat) (c : Cell) : (S ++ W).set (S.length + k) c = S ++ W.set k c := by
  rw [List.set_append_right _ _ (by omega)]
  congr 2
  omega
theorem ag0 (S W : Store) : (S ++ W)[S.length]? = W[0]? := ag S W 0
theorem as0 (S W : Store) (c : Cell) : (S ++ W).set S.length c = S ++ W.set 0 c := as S W 0 c
theorem ndl_set (l : List Nat) (k v : Nat) : (ndl l).set k (.int (v : Nat)) = ndl (l.set k v) := by
  unfold ndl
  rw [List.map_set]
def trip (q : Nat × Nat × Nat) : D := .tup [.int (q.1 : Nat), .int (q.2.1 : Nat), .int (q.2.2 : Nat)]
def Way (l r : List Nat) : Nat → List (Nat × Nat × Nat) → Nat → Prop
  | t, [], t' => t = t'
  | t, q :: st, t' => At l r t q.1 q.2.1 ∧ q.2.2 = nxt l r q.1 q.2.1 - t ∧ Way l r (nxt l r q.1 q.2.1) st t'
structure Wh (l r : List Nat) (t i j : Nat) : Prop where
  hi : i ≤ l.length
  hj : j ≤ r.length
  a1 : pre l i ≤ t
  a2 : t ≤ pre l (i + 1)
  b1 : pre r j ≤ t
  b2 : t ≤ pre r (j + 1)
theorem cs_loop (n : Nat) (S : Store) {l r : List Nat} (hm : Mg l r) (y0 y1 : Option D) : ∀ (m : Nat) (i j t : Nat) (st : List (Nat × Nat × Nat)) (y7 : Option D), l.length - i + (r.length - j) ≤ m → Wh l r t i j → st.length + m ≤ 100 → ∃ (k : Nat) (st' : List (Nat × Nat × Nat)) (W : Store) (z3 z4 z7 : Option D), Way l r t st' l.sum ∧
    whlN (fun ρ S => evT (csOf T (n + 1)) b6t0 ρ S) (fun ρ S => exSs (csOf T (n + 1)) b6l0 ρ S) k [y0, y1, some (.ref (S.length + 2)), some (.int (i : Nat)), some (.int (j : Nat)), some (.ref S.length), some (.ref (S.length + 1)), y7] (S ++ [.lst (ndl (rem l t)), .lst (ndl (rem r t)), .lst (st.map trip)]) = some (.nx [y0, y1, some (.ref (S.length + 2)), z3, z4, some (.ref S.length), some (.ref (S.length + 1)), z7] (S ++ [.lst (ndl (rem l l.sum)), .lst (ndl (rem r l.sum)), .lst ((st ++ st').map trip)]))
  | m, i, j, t, st, y7, hm0, h, hst => by
    have g0 := ag0 S [.lst (ndl (rem l t)), .lst (ndl (rem r t)), .lst (st.map trip)]
    have g1 := ag S [.lst (ndl (rem l t)), .lst (ndl (rem r t)), .lst (st.map trip)] 1
    have g2 := ag S [.lst (ndl (rem l t)), .lst (ndl (rem r t)), .lst (st.map trip)] 2
    simp only [List.getElem?_cons_zero, List.getElem?_cons_succ] at g0 g1 g2
    by_cases c : i < l.length ∧ j < r.length
    · obtain ⟨ci, cj⟩ := c
      have at_ : At l r t i j := ⟨ci, cj, h.a1, h.a2, h.b1, h.b2⟩
      match m, hm0 with
      | 0, hm0 => omega
      | m + 1, hm0 =>
        have hl := rem_len l t
        have hr := rem_len r t
        have gi := ndl_get (l := rem l t) (k := i) (by omega)
        have gj := ndl_get (l := rem r t) (k := j) (by omega)
        have am := at_.amount
        have nl := at_.next_l
        have nr := at_.next_r
        have lx := at_.left
        have hnx : nxt l r i j = min (pre l (i + 1)) (pre r (j + 1)) := rfl
        have a2 := h.a2
        have b2 := h.b2
        have rx := at_.right
        generalize hx : (rem l t).getD i 0 = x at gi am nl lx
        generalize hy : (rem r t).getD j 0 = y at gj am nr rx
        generalize ht : nxt l r i j = t' at am nl nr hnx
        have mi : (if y < x then (y : Int) else x) = ((t' - t : Nat) : Int) := by split <;> omega
        have d1 : (x : Int) - ((t' - t : Nat) : Int) = ((x - (t' - t) : Nat) : Int) := by omega
        have d2 : (y : Int) - ((t' - t : Nat) : Int) = ((y - (t' - t) : Nat) : Int) := by omega
        have ci' : (i : Int) < l.length := by omega
        have cj' : (j : Int) < r.length := by omega
        have lt : st.length < LIM := by unfold LIM; omega
        have gl' : (ndl (rem l t')).length = l.length := by rw [ndl_len, rem_len]
        have gi' : (ndl (rem l t'))[i]? = some (.int ((x - (t' - t) : Nat) : Int)) := by
          rw [nl, ← ndl_set]
          rw [List.getElem?_set_self (by rw [ndl_len]; omega)]
        have ti : ((i : Int)).toNat = i := by omega
        have sA := as0 S [.lst (ndl (rem l t)), .lst (ndl (rem r t)), .lst (st.map trip)] (.lst (ndl (rem l t')))
        have sB := as S [.lst (ndl (rem l t')), .lst (ndl (rem r t)), .lst (st.map trip)] 1 (.lst (ndl (rem r t')))
        have sC := as S [.lst (ndl (rem l t')), .lst (ndl (rem r t')), .lst (st.map trip)] 2 (.lst ((st ++ [(i, j, t' - t)]).map trip))
        simp only [List.set_cons_zero, List.set_cons_succ] at sA sB sC
        have gA1 := ag S [.lst (ndl (rem l t')), .lst (ndl (rem r t)), .lst (st.map trip)] 1
        have gB2 := ag S [.lst (ndl (rem l t')), .lst (ndl (rem r t')), .lst (st.map trip)] 2
        have gC0 := ag0 S [.lst (ndl (rem l t')), .lst (ndl (rem r t')), .lst ((st ++ [(i, j, t' - t)]).map trip)]
        simp only [List.getElem?_cons_zero, List.getElem?_cons_succ] at gA1 gB2 gC0
        have e1 : (ndl (rem l t)).set i (.int ((x - (t' - t) : Nat) : Int)) = ndl (rem l t') := by rw [ndl_set, nl]
        have e2 : (ndl (rem r t)).set j (.int ((y - (t' - t) : Nat) : Int)) = ndl (rem r t') := by rw [ndl_set, nr]
        have e3 : st.map trip ++ [D.tup [.int (i : Nat), .int (j : Nat), .int ((t' - t : Nat) : Int)]] = (st ++ [(i, j, t' - t)]).map trip := by simp [trip]
        by_cases hz : x - (t' - t) = 0
        · obtain ⟨k, st', W, z3, z4, z7, w, e⟩ := cs_loop n S hm y0 y1 m (i + 1) j t' (st ++ [(i, j, t' - t)]) (some (.int ((t' - t : Nat) : Int))) (by omega) ⟨by omega, by omega, by omega, by have := pre_step l (i + 1); omega, by have := h.b1; omega, by omega⟩ (by simp; omega)
          refine ⟨k + 1, (i, j, t' - t) :: st', W, z3, z4, z7, ⟨at_, by rw [ht], by rw [ht]; exact w⟩, ?_⟩
          rw [hz] at gi'
          push_cast at e
          have e' : st ++ (i, j, t' - t) :: st' = st ++ [(i, j, t' - t)] ++ st' := by simp
          rw [e', ← e]
          refine whlN_turn (S1 := S ++ [.lst (ndl (rem l t)), .lst (ndl (rem r t)), .lst (st.map trip)]) ?_ ?_
          · simp (dsimp := false) (implicitDefEqProofs := false) [b6t0, g0, g1, ndl_len, hl, hr, ci', cj', ci, cj, exSs, exS, evE.eq_1, evE.eq_2, evE.eq_3, evE.eq_4, evE.eq_5, evE.eq_6, evE.eq_7, evE.eq_8, evE.eq_9, evE.eq_10, evE.eq_11, evE.eq_12, evE.eq_13, evE.eq_14, evE.eq_15, evE.eq_16, evE.eq_17, evE.eq_18, evE.eq_19, evE.eq_20, evE.eq_21, evE.eq_22, evE.eq_23, evE.eq_24, evE.eq_25, evE.eq_26, evE.eq_27, evE.eq_28, evT, evL, evI, evC, evW, startF, setS, idxD, seqOf, ixN, binD, arI, setI, cmpD, intCmp, cmpI, truD, isAny, isD, isNo, pln, vw, eqD, biD, tidy_same, wipe, toR_nx, refIx, augV, valS]
          · simp (dsimp := false) (implicitDefEqProofs := false) [b6l0, g0, g1, ndl_len, hl, hr, ci', cj', gi, gj, mi, d1, d2, e1, e2, sA, sB, sC, gA1, gB2, gC0, bmOk, bmD, lt, e3, gl', gi', -List.map_append, exSs, exS, evE.eq_1, evE.eq_2, evE.eq_3, evE.eq_4, evE.eq_5, evE.eq_6, evE.eq_7, evE.eq_8, evE.eq_9, evE.eq_10, evE.eq_11, evE.eq_12, evE.eq_13, evE.eq_14, evE.eq_15, evE.eq_16, evE.eq_17, evE.eq_18, evE.eq_19, evE.eq_20, evE.eq_21, evE.eq_22, evE.eq_23, evE.eq_24, evE.eq_25, evE.eq_26, evE.eq_27, evE.eq_28, evT, evL, evI, evC, evW, startF, setS, idxD, seqOf, ixN, binD, arI, setI, cmpD, intCmp, cmpI, truD, isAny, isD, isNo, pln, vw, eqD, biD, tidy_same, wipe, toR_nx, refIx, augV, valS]
        · obtain ⟨k, st', W, z3, z4, z7, w, e⟩ := cs_loop n S hm y0 y1 m i (j + 1) t' (st ++ [(i, j, t' - t)]) (some (.int ((t' - t : Nat) : Int))) (by omega) ⟨by omega, by omega, by have := h.a1; omega, by omega, by omega, by have := pre_step r (j + 1); omega⟩ (by simp; omega)
          refine ⟨k + 1, (i, j, t' - t) :: st', W, z3, z4, z7, ⟨at_, by rw [ht], by rw [ht]; exact w⟩, ?_⟩
          have hz' : (((x - (t' - t) : Nat) : Int) == 0) = false := beq_eq_false_iff_ne.mpr (by omega)
          push_cast at e
          have e' : st ++ (i, j, t' - t) :: st' = st ++ [(i, j, t' - t)] ++ st' := by simp
          rw [e', ← e]
          generalize x - (t' - t) = xx at gi' d1 e1 hz'
          refine whlN_turn (S1 := S ++ [.lst (ndl (rem l t)), .lst (ndl (rem r t)), .lst (st.map trip)]) ?_ ?_
          · simp (dsimp := false) (implicitDefEqProofs := false) [b6t0, g0, g1, ndl_len, hl, hr, ci', cj', ci, cj, exSs, exS, evE.eq_1, evE.eq_2, evE.eq_3, evE.eq_4, evE.eq_5, evE.eq_6, evE.eq_7, evE.eq_8, evE.eq_9, evE.eq_10, evE.eq_11, evE.eq_12, evE.eq_13, evE.eq_14, evE.eq_15, evE.eq_16, evE.eq_17, evE.eq_18, evE.eq_19, evE.eq_20, evE.eq_21, evE.eq_22, evE.eq_23, evE.eq_24, evE.eq_25, evE.eq_26, evE.eq_27, evE.eq_28, evT, evL, evI, evC, evW, startF, setS, idxD, seqOf, ixN, binD, arI, setI, cmpD, intCmp, cmpI, truD, isAny, isD, isNo, pln, vw, eqD, biD, tidy_same, wipe, toR_nx, refIx, augV, valS]
          · simp (dsimp := false) (implicitDefEqProofs := false) [b6l0, g0, g1, ndl_len, hl, hr, ci', cj', gi, gj, mi, d1, d2, e1, e2, sA, sB, sC, gA1, gB2, gC0, bmOk, bmD, lt, e3, gl', gi', hz', -List.map_append, exSs, exS, evE.eq_1, evE.eq_2, evE.eq_3, evE.eq_4, evE.eq_5, evE.eq_6, evE.eq_7, evE.eq_8, evE.eq_9, evE.eq_10, evE.eq_11, evE.eq_12, evE.eq_13, evE.eq_14, evE.eq_15, evE.eq_16, evE.eq_17, evE.eq_18, evE.eq_19, evE.eq_20, evE.eq_21, evE.eq_22, evE.eq_23, evE.eq_24, evE.eq_25, evE.eq_26, evE.eq_27, evE.eq_28, evT, evL, evI, evC, evW, startF, setS, idxD, seqOf, ixN, binD, arI, setI, cmpD, intCmp, cmpI, truD, isAny, isD, isNo, pln, vw, eqD, biD, tidy_same, wipe, toR_nx, refIx, augV, valS]
    · have ts : t = l.sum := by
        have p1 := pre_le l (i + 1)
        have p2 := pre_le r (j + 1)
        have a1 := h.a1
        have b1 := h.b1
        have a2 := h.a2
        have b2 := h.b2
        have sm := hm.sm
        rcases Nat.lt_or_ge i l.length with h1 | h1
        · have h2 : r.length ≤ j := by omega
          rw [pre_ge h2] at b1
          omega
        · rw [pre_ge h1] at a1
          omega
      have hl := rem_len l t
      have hr := rem_len r t
      refine ⟨1, [], S, some (.int (i : Nat)), some (.int (j : Nat)), y7, ts, ?_⟩
      rw [List.append_nil, ← ts]
      refine whlN_end (S := S ++ [.lst (ndl (rem l t)), .lst (ndl (rem r t)), .lst (st.map trip)]) ?_
      rcases Nat.lt_or_ge i l.length with h1 | h1
      · have h2 : ¬ j < r.length := by omega
        have h1' : (i : Int) < l.length := by omega
        have h2' : ¬ (j : Int) < r.length := by omega
        simp (dsimp := false) (implicitDefEqProofs := false) [b6t0, g0, g1, ndl_len, hl, hr, h1, h2, h1', h2', exSs, exS, evE.eq_1, evE.eq_2, evE.eq_3, evE.eq_4, evE.eq_5, evE.eq_6, evE.eq_7, evE.eq_8, evE.eq_9, evE.eq_10, evE.eq_11, evE.eq_12, evE.eq_13, evE.eq_14, evE.eq_15, evE.eq_16, evE.eq_17, evE.eq_18, evE.eq_19, evE.eq_20, evE.eq_21, evE.eq_22, evE.eq_23, evE.eq_24, evE.eq_25, evE.eq_26, evE.eq_27, evE.eq_28, evT, evL, evI, evC, evW, startF, setS, idxD, seqOf, ixN, binD, arI, setI, cmpD, intCmp, cmpI, truD, isAny, isD, isNo, pln, vw, eqD, biD, tidy_same, wipe, toR_nx, refIx, augV, valS]
      · have h1' : ¬ (i : Int) < l.length := by omega
        have h1'' : ¬ i < l.length := by omega
        simp (dsimp := false) (implicitDefEqProofs := false) [b6t0, g0, g1, ndl_len, hl, hr, h1'', h1', exSs, exS, evE.eq_1, evE.eq_2, evE.eq_3, evE.eq_4, evE.eq_5, evE.eq_6, evE.eq_7, evE.eq_8, evE.eq_9, evE.eq_10, evE.eq_11, evE.eq_12, evE.eq_13, evE.eq_14, evE.eq_15, evE.eq_16, evE.eq_17, evE.eq_18, evE.eq_19, evE.eq_20, evE.eq_21, evE.eq_22, evE.eq_23, evE.eq_24, evE.eq_25, evE.eq_26, evE.eq_27, evE.eq_28, evT, evL, evI, evC, evW, startF, setS, idxD, seqOf, ixN, binD, arI, setI, cmpD, intCmp, cmpI, truD, isAny, isD, isNo, pln, vw, eqD, biD, tidy_same, wipe, toR_nx, refIx, augV, valS]
end Lw
end
section
set_option maxRecDepth 100000
set_option maxHeartbeats 8000000
namespace Lw
open Ev Lg
theorem tidy_at {S W : Store} {k : Nat} {l : List D} (h : W[k]? = some (.lst l)) (hl : belowL S.length l = true) : Ev.tidy true S (.ok (.ref (S.length + k)) (S ++ W)) = .ok (.lst l) S := by
  unfold Ev.tidy
  have c : cutOk S (S ++ W) = true := by simp [cutOk]
  have b : below S.length (.ref (S.length + k)) = false := by simp [below]
  have g := ag S W k
  have t : (S ++ W).take S.length = S := by simp
  simp only [c, if_true, b, g, h, hl, t, Bool.false_eq_true, if_false]
theorem trips_below (n : Nat) (st : List (Nat × Nat × Nat)) : belowL n (st.map trip) = true := belowL_of fun d hd => by
  obtain ⟨q, _, rfl⟩ := List.mem_map.mp hd
  simp [trip, below, belowL]
theorem f_steps (n : Nat) {l r : List Nat} (hm : Mg l r) : ∃ st : List (Nat × Nat × Nat), Way l r 0 st l.sum ∧ ∀ S : Store, ∃ st', Way l r 0 st' l.sum ∧ run T (n + 2) 6 [tn l, tn r] S = .ok (.lst (st'.map trip)) S := by
  have main : ∀ S : Store, ∃ st', Way l r 0 st' l.sum ∧ run T (n + 2) 6 [tn l, tn r] S = .ok (.lst (st'.map trip)) S := by
    intro S
    have hl := hm.ll
    have hr := hm.rl
    obtain ⟨k, st, W, z3, z4, z7, w, e⟩ := cs_loop n S hm (some (tn l)) (some (tn r)) (l.length + r.length) 0 0 0 [] none (by omega) ⟨by omega, by omega, by simp [pre_zero], by omega, by simp [pre_zero], by omega⟩ (by simp; omega)
    rw [rem_zero, rem_zero, List.nil_append] at e
    have e := whl_of e
    refine ⟨st, w, ?_⟩
    have z0 : ((0 : Nat) : Int) = 0 := rfl
    rw [z0, List.map_nil] at e
    rw [run_def (F := ⟨2, 8, b6, true⟩) rfl rfl]
    simp (dsimp := false) (implicitDefEqProofs := false) [b6, mkL, e, exSs, exS, evE.eq_1, evE.eq_2, evE.eq_3, evE.eq_4, evE.eq_5, evE.eq_6, evE.eq_7, evE.eq_8, evE.eq_9, evE.eq_10, evE.eq_11, evE.eq_12, evE.eq_13, evE.eq_14, evE.eq_15, evE.eq_16, evE.eq_17, evE.eq_18, evE.eq_19, evE.eq_20, evE.eq_21, evE.eq_22, evE.eq_23, evE.eq_24, evE.eq_25, evE.eq_26, evE.eq_27, evE.eq_28, evT, evL, evI, evC, evW, startF, setS, idxD, seqOf, ixN, binD, arI, setI, cmpD, intCmp, cmpI, truD, isAny, isD, isNo, pln, vw, eqD, biD, tidy_same, wipe, toR_nx, refIx, augV, valS]
    exact tidy_at (W := [.lst (ndl (rem l l.sum)), .lst (ndl (rem r l.sum)), .lst (st.map trip)]) (k := 2) rfl (trips_below _ _)
  obtain ⟨st, w, _⟩ := main []
  exact ⟨st, w, main⟩
/-! a table of cells -/
def refs (b m : Nat) : List D := (List.range m).map fun i => .ref (b + i)
theorem refs_succ (b m : Nat) : refs b (m + 1) = refs b m ++ [.ref (b + m)] := by simp [refs, List.range_succ]
theorem refs_len (b m : Nat) : (refs b m).length = m := by simp [refs]
theorem refs_get {b m i : Nat} (h : i < m) : (refs b m)[i]? = some (.ref (b + i)) := by simp [refs, h]
abbrev rowC (x : List Nat) : Cell := .lst (ndl x)
theorem lc_rows {fc : Fr → Store → Rs Bool} {fe : Fr → Store → Rs D} {ρ : Fr} {tg : Tg} {S : Store} (Z : Cell) : ∀ (L : List D) (m : Nat), m + L.length ≤ 1000 → (∀ d ∈ L, ∀ S', ∃ ρ1, setT tg d ρ S' = some ρ1 ∧ fc ρ1 S' = .ok true S' ∧ fe ρ1 S' = .ok (.ref S'.length) (S' ++ [Z])) →
    lcL tg fc fe ρ [] S.length L (S ++ (.lst (refs (S.length + 1) m) :: List.replicate m Z)) = .ok () (S ++ (.lst (refs (S.length + 1) (m + L.length)) :: List.replicate (m + L.length) Z))
  | [], m, _, _ => by simp [lcL, gOk_nil]
  | d :: L, m, hl, h => by
    simp only [List.length_cons] at hl
    obtain ⟨ρ1, h1, h2, h3⟩ := h d List.mem_cons_self (S ++ (.lst (refs (S.length + 1) m) :: List.replicate m Z))
    have ih := lc_rows (fc := fc) (fe := fe) (ρ := ρ) (tg := tg) (S := S) Z L (m + 1) (by omega) fun x hx => h x (List.mem_cons_of_mem _ hx)
    have g : (S ++ (.lst (refs (S.length + 1) m) :: List.replicate m Z) ++ [Z])[S.length]? = some (.lst (refs (S.length + 1) m)) := by
      rw [List.append_assoc, ag0]
      rfl
    have lm : (refs (S.length + 1) m).length < LIM := by rw [refs_len]; unfold LIM; omega
    have ln : (S ++ (Cell.lst (refs (S.length + 1) m) :: List.replicate m Z)).length = S.length + 1 + m := by simp; omega
    have st : (S ++ (.lst (refs (S.length + 1) m) :: List.replicate m Z) ++ [Z]).set S.length (.lst (refs (S.length + 1) m ++ [.ref (S.length + 1 + m)])) = S ++ (.lst (refs (S.length + 1) (m + 1)) :: List.replicate (m + 1) Z) := by
      rw [List.append_assoc, as0, refs_succ]
      simp [List.replicate_succ']
    simp only [lcL, gOk_nil, if_true, h1, h2, h3, th_ok, g, lm, ln, st]
    rw [ih, List.length_cons]
    rw [show m + 1 + L.length = m + (L.length + 1) by omega]
theorem ev_rows {C : Cs} {own : List Nat} {tg : Tg} {it : Iter} {e : Ex} {ρ : Fr} {S : Store} (Z : Cell) {L : List D} (hL : L ≠ []) (hl : L.length ≤ 1000) (hw : evW C it ρ S = .ok (L, []) S) (h : ∀ d ∈ L, ∀ S', ∃ ρ1, setT tg d (wipe ρ own) S' = some ρ1 ∧ evE C e ρ1 S' = .ok (.ref S'.length) (S' ++ [Z])) :
    evE C (.lc false own tg it .no e) ρ S = .ok (.ref S.length) (S ++ (.lst (refs (S.length + 1) L.length) :: List.replicate L.length Z)) := by
  rw [evE.eq_29, hw, th_ok]
  have := lc_rows (fc := fun ρ S => evC C .no ρ S) (fe := fun ρ S => evE C e ρ S) (ρ := wipe ρ own) (tg := tg) (S := S) Z L 0 (by omega) fun d hd S' => by
    obtain ⟨ρ1, h1, h2⟩ := h d hd S'
    exact ⟨ρ1, h1, by simp [evC], h2⟩
  rw [Nat.zero_add] at this
  have e0 : S ++ (Cell.lst (refs (S.length + 1) 0) :: List.replicate 0 Z) = S ++ [.lst []] := rfl
  rw [e0] at this
  rw [this]
  simp only [Rs.nox, th_ok]
  have g := ag0 S (.lst (refs (S.length + 1) L.length) :: List.replicate L.length Z)
  have nb : belowL S.length (refs (S.length + 1) L.length) = false := by
    cases L with
    | nil => exact absurd rfl hL
    | cons d L =>
      rw [List.length_cons]
      simp [refs, List.range_succ_eq_map, belowL, below]
      try (intro h; omega)
  unfold lcE
  simp only [g, List.getElem?_cons_zero, nb, Bool.and_false, Bool.false_eq_true, if_false]
theorem zeros (k : Nat) : ndl (List.replicate k 0) = List.replicate k (.int 0) := by simp [ndl]
/-- a new list of zeros -/
theorem ev_zero {C : Cs} {own : List Nat} {i : Nat} {it : Iter} {e : Ex} {ρ : Fr} {S : Store} {L : List D} (d0 : D) (hl : L.length ≤ 1000) (hw : evW C it ρ S = .ok (L, []) S) (h : ∀ d ∈ L, ∀ S', evE C e (setS (wipe ρ own) i d) S' = .ok d0 S') :
    evE C (.lc true own (.nm i) it .no e) ρ S = .ok (.ref S.length) (S ++ [.lst (List.replicate L.length d0)]) := by
  rw [evE.eq_29, hw, th_ok]
  have := lcL_pure (tg := .nm i) (fc := fun ρ S => evC C .no ρ S) (fe := fun ρ S => evE C e ρ S) (ρ := wipe ρ own) (g := []) (X := S) (fun _ => true) (fun _ => d0) (fun c => gOk_nil _) L [] (fun d hd x => ⟨_, rfl, by simp [evC], fun _ => h d hd _⟩) (by simpa using lim_le (n := L.length) (by omega))
  rw [this]
  simp only [Rs.nox, th_ok, List.nil_append, flt_true, List.map_const']
  have g := ag0 S [.lst (List.replicate L.length d0)]
  unfold lcE
  simp only [g, List.getElem?_cons_zero, if_true]
def TB (b : Nat) (t : List (List Nat)) : Store := .lst (refs (b + 1) t.length) :: t.map rowC
theorem tab_row {l r : List Nat} {t i : Nat} (h : i < l.length) : ((tab l r t).map rowC)[i]? = some (rowC ((tab l r t).getD i [])) := by simp [tab, h]
theorem tab_get {l r : List Nat} {t i j : Nat} (hi : i < l.length) (hj : j < r.length) : ((tab l r t).getD i []).getD j 0 = ov l r t i j ∧ ((tab l r t).getD i []).length = r.length := by simp [tab, hi, hj]
theorem cr_loop (n : Nat) (S : Store) {l r : List Nat} (y0 y1 y6 : Option D) : ∀ (st : List (Nat × Nat × Nat)) (t t' : Nat) (y3 y4 y5 : Option D), Way l r t st t' → ∃ z3 z4 z5, forL (.tp [3, 4, 5]) (fun ρ S => exSs (csOf T (n + 1)) b7l0 ρ S) [] (st.map trip) [y0, y1, some (.ref S.length), y3, y4, y5, y6] (S ++ TB S.length (tab l r t)) = .nx [y0, y1, some (.ref S.length), z3, z4, z5, y6] (S ++ TB S.length (tab l r t'))
  | [], t, t', y3, y4, y5, w => ⟨y3, y4, y5, by rw [show t = t' from w]; exact forL_nil⟩
  | (i, j, a) :: st, t, t', y3, y4, y5, ⟨h, ha, w⟩ => by
    simp only [] at h ha w
    obtain ⟨z3, z4, z5, e⟩ := cr_loop n S y0 y1 y6 st _ t' (some (.int (i : Nat))) (some (.int (j : Nat))) (some (.int (a : Nat))) w
    refine ⟨z3, z4, z5, ?_⟩
    rw [← e]
    have tl := tab_len l r t
    have g0 : (S ++ TB S.length (tab l r t))[S.length]? = some (.lst (refs (S.length + 1) l.length)) := by rw [ag0]; simp [TB, tl]
    have g1 : (S ++ TB S.length (tab l r t))[S.length + 1 + i]? = some (rowC ((tab l r t).getD i [])) := by
      rw [show S.length + 1 + i = S.length + (1 + i) by omega, ag, show 1 + i = i + 1 by omega]
      exact tab_row h.hi
    obtain ⟨q1, q2⟩ := tab_get (t := t) h.hi h.hj
    have nt := h.next_t
    have gj := ndl_get (l := (tab l r t).getD i []) (k := j) (by rw [q2]; exact h.hj)
    rw [q1] at gj
    rw [← ha] at nt
    have s1 : (S ++ TB S.length (tab l r t)).set (S.length + 1 + i) (rowC (((tab l r t).getD i []).set j (ov l r t i j + a))) = S ++ TB S.length (tab l r (nxt l r i j)) := by
      rw [show S.length + 1 + i = S.length + (1 + i) by omega, as, show 1 + i = i + 1 by omega]
      unfold TB
      rw [tl, tab_len, List.set_cons_succ, nt, List.map_set]
    generalize (tab l r t).getD i [] = row at g1 gj s1 q2
    have hi := h.hi
    have hj := h.hj
    have hi' : (i : Int) < l.length := by omega
    have hj' : (j : Int) < r.length := by omega
    have rg := refs_get (b := S.length + 1) hi
    have sm : ((ov l r t i j : Nat) : Int) + (a : Int) = ((ov l r t i j + a : Nat) : Int) := by push_cast; rfl
    generalize ov l r t i j + a = oa at s1 sm
    have ns := ndl_set row j oa
    show forL _ _ _ (.tup [.int (i : Nat), .int (j : Nat), .int (a : Nat)] :: st.map trip) _ _ = _
    exact forL_nx rfl (by simp (dsimp := false) (implicitDefEqProofs := false) [b7l0, g0, refs_len, hi', rg, g1, ndl_len, q2, hj', gj, sm, ns, s1, exSs, exS, evE.eq_1, evE.eq_2, evE.eq_3, evE.eq_4, evE.eq_5, evE.eq_6, evE.eq_7, evE.eq_8, evE.eq_9, evE.eq_10, evE.eq_11, evE.eq_12, evE.eq_13, evE.eq_14, evE.eq_15, evE.eq_16, evE.eq_17, evE.eq_18, evE.eq_19, evE.eq_20, evE.eq_21, evE.eq_22, evE.eq_23, evE.eq_24, evE.eq_25, evE.eq_26, evE.eq_27, evE.eq_28, evT, evL, evI, evC, evW, startF, setS, idxD, seqOf, ixN, binD, arI, setI, cmpD, intCmp, cmpI, truD, isAny, isD, isNo, pln, vw, eqD, biD, tidy_same, wipe, toR_nx, refIx, augV, valS])
end Lw
end
section
set_option maxRecDepth 100000
set_option maxHeartbeats 8000000
namespace Lw
open Ev Lg
def rowD (S : Store) : D → D
  | .ref k => match S[k]? with
    | some (.lst l) => .tup l
    | _ => .non
  | _ => .non
theorem gOk_one {S : Store} {b : Nat} {c : Cell} (h : S[b]? = some c) (x : Cell) : gOk [(b, c)] (S ++ [x]) = true := by
  have hb : b < S.length := (List.getElem?_eq_some_iff.mp h).1
  unfold gOk
  simp [List.getElem?_append_left hb, h]
theorem gOk_one0 {S : Store} {b : Nat} {c : Cell} (h : S[b]? = some c) : gOk [(b, c)] S = true := by
  unfold gOk
  simp [h]
theorem refs_rows {S : Store} {b : Nat} {t : List (List Nat)} (hr : ∀ i, i < t.length → S[b + i]? = some (rowC (t.getD i []))) : (refs b t.length).map (rowD S) = t.map tn := by
  apply List.ext_getElem
  · simp [refs]
  · intro i h1 h2
    have h3 : i < t.length := by simpa using h2
    have := hr i h3
    simp [refs, rowD, this, h3]
theorem tn_below (n : Nat) (l : List Nat) : below n (tn l) = true := by
  have := ndl_below n l
  simp [below, this]
theorem tb_belowL (n : Nat) (t : List (List Nat)) : belowL n (t.map tn) = true := belowL_of fun d hd => by
  obtain ⟨l, _, rfl⟩ := List.mem_map.mp hd
  exact tn_below n l
theorem f_frozen (n : Nat) {S : Store} {b k : Nat} {t : List (List Nat)} (ht : t.length ≤ 1000) (hb : S[k]? = some (.lst (refs b t.length))) (hr : ∀ i, i < t.length → S[b + i]? = some (rowC (t.getD i []))) : run T (n + 1) 8 [.ref k] S = .ok (tbD t) S := by
  rw [run_def (F := ⟨1, 2, b8, false⟩) rfl rfl]
  have lim := lim_le ht
  have em := refs_rows hr
  have e := lc_map (C := csOf T n) (own := [1]) (tg := .nm 1) (it := .seq (.var 0)) (e := b8e0) (ρ := [some (.ref k), none]) (S := S) (l := refs b t.length) (g := [(k, .lst (refs b t.length))]) (rowD S)
    (by simp (dsimp := false) (implicitDefEqProofs := false) [seqIt, Ev.guard, hb, exSs, exS, evE.eq_1, evE.eq_2, evE.eq_3, evE.eq_4, evE.eq_5, evE.eq_6, evE.eq_7, evE.eq_8, evE.eq_9, evE.eq_10, evE.eq_11, evE.eq_12, evE.eq_13, evE.eq_14, evE.eq_15, evE.eq_16, evE.eq_17, evE.eq_18, evE.eq_19, evE.eq_20, evE.eq_21, evE.eq_22, evE.eq_23, evE.eq_24, evE.eq_25, evE.eq_26, evE.eq_27, evE.eq_28, evT, evL, evI, evC, evW, startF, setS, idxD, seqOf, ixN, binD, arI, setI, cmpD, intCmp, cmpI, truD, isAny, isD, isNo, pln, vw, eqD, biD, tidy_same, wipe, toR_nx, refIx, augV, valS]) (fun c => gOk_one hb c) (fun d hd x => ⟨_, rfl, by
      obtain ⟨i, hi, rfl⟩ := List.mem_map.mp hd
      have hi := List.mem_range.mp hi
      have g := hr i hi
      have lt : b + i < S.length := (List.getElem?_eq_some_iff.mp g).1
      have g2 : (S ++ [x])[b + i]? = some (rowC (t.getD i [])) := by rw [List.getElem?_append_left lt]; exact g
      simp (dsimp := false) (implicitDefEqProofs := false) [b8e0, g2, rowD, g, lstOf, exSs, exS, evE.eq_1, evE.eq_2, evE.eq_3, evE.eq_4, evE.eq_5, evE.eq_6, evE.eq_7, evE.eq_8, evE.eq_9, evE.eq_10, evE.eq_11, evE.eq_12, evE.eq_13, evE.eq_14, evE.eq_15, evE.eq_16, evE.eq_17, evE.eq_18, evE.eq_19, evE.eq_20, evE.eq_21, evE.eq_22, evE.eq_23, evE.eq_24, evE.eq_25, evE.eq_26, evE.eq_27, evE.eq_28, evT, evL, evI, evC, evW, startF, setS, idxD, seqOf, ixN, binD, arI, setI, cmpD, intCmp, cmpI, truD, isAny, isD, isNo, pln, vw, eqD, biD, tidy_same, wipe, toR_nx, refIx, augV, valS]⟩) (by rw [refs_len]; exact lim) (by rw [em]; exact tb_belowL _ _)
  rw [em] at e
  simp (dsimp := false) (implicitDefEqProofs := false) [b8, e, lstOf, exSs, exS, evE.eq_1, evE.eq_2, evE.eq_3, evE.eq_4, evE.eq_5, evE.eq_6, evE.eq_7, evE.eq_8, evE.eq_9, evE.eq_10, evE.eq_11, evE.eq_12, evE.eq_13, evE.eq_14, evE.eq_15, evE.eq_16, evE.eq_17, evE.eq_18, evE.eq_19, evE.eq_20, evE.eq_21, evE.eq_22, evE.eq_23, evE.eq_24, evE.eq_25, evE.eq_26, evE.eq_27, evE.eq_28, evT, evL, evI, evC, evW, startF, setS, idxD, seqOf, ixN, binD, arI, setI, cmpD, intCmp, cmpI, truD, isAny, isD, isNo, pln, vw, eqD, biD, tidy_same, wipe, toR_nx, refIx, augV, valS]
theorem TB_zero (b : Nat) (l r : List Nat) : TB b (tab l r 0) = .lst (refs (b + 1) l.length) :: List.replicate l.length (.lst (List.replicate r.length (.int 0))) := by
  unfold TB
  rw [tab_len, tab_zero]
  congr 1
  rw [List.map_map]
  apply List.ext_getElem
  · simp
  · intro i h1 h2
    simp only [List.getElem_map, List.getElem_replicate, Function.comp]
    rw [← zeros, List.map_const', List.length_range]
theorem TB_len (b : Nat) (t : List (List Nat)) : (TB b t).length = t.length + 1 := by simp [TB]
theorem TB_refs {b : Nat} {l r : List Nat} (h : l ≠ []) : belowL b (refs (b + 1) l.length) = false := by
  cases l with
  | nil => exact absurd rfl h
  | cons d L =>
    rw [List.length_cons]
    simp [refs, List.range_succ_eq_map, belowL, below]
    try (intro h; omega)
theorem tidy_refs {S S' : Store} {L : List D} (c : cutOk S S' = true) (g : S'[S.length]? = some (.lst L)) (nl : belowL S.length L = false) : Ev.tidy true S (.ok (.ref S.length) S') = .ok (.ref S.length) S' := by
  unfold Ev.tidy
  have nb : below S.length (.ref S.length) = false := by simp [below]
  simp only [c, if_true, nb, g, nl, Bool.false_eq_true, if_false]
/-- the rows that the corner rule fills -/
theorem f_rows (n : Nat) {l r : List Nat} (hm : Mg l r) (h0 : l ≠ []) (S : Store) : run T (n + 3) 7 [tn l, tn r] S = .ok (.ref S.length) (S ++ TB S.length (full l r)) := by
  have hl := hm.ll
  have hr := hm.rl
  rw [run_def (F := ⟨2, 7, b7, true⟩) rfl rfl]
  have ea := ev_rows (C := csOf T (n + 2)) (own := [6]) (tg := .nm 6) (it := .seq (.var 0)) (e := b7e1) (ρ := [some (tn l), some (tn r), none, none, none, none, none]) (S := S) (L := ndl l) (.lst (List.replicate r.length (.int 0)))
    (by intro h; exact h0 (by simpa [ndl] using h)) (by rw [ndl_len]; omega) (by simp (dsimp := false) (implicitDefEqProofs := false) [seqIt, Ev.guard, exSs, exS, evE.eq_1, evE.eq_2, evE.eq_3, evE.eq_4, evE.eq_5, evE.eq_6, evE.eq_7, evE.eq_8, evE.eq_9, evE.eq_10, evE.eq_11, evE.eq_12, evE.eq_13, evE.eq_14, evE.eq_15, evE.eq_16, evE.eq_17, evE.eq_18, evE.eq_19, evE.eq_20, evE.eq_21, evE.eq_22, evE.eq_23, evE.eq_24, evE.eq_25, evE.eq_26, evE.eq_27, evE.eq_28, evT, evL, evI, evC, evW, startF, setS, idxD, seqOf, ixN, binD, arI, setI, cmpD, intCmp, cmpI, truD, isAny, isD, isNo, pln, vw, eqD, biD, tidy_same, wipe, toR_nx, refIx, augV, valS]) (fun d hd S' => ⟨_, rfl, by
      have ez := ev_zero (C := csOf T (n + 2)) (own := [6]) (i := 6) (it := .seq (.var 1)) (e := b7e0) (ρ := [some (tn l), some (tn r), none, none, none, none, some d]) (S := S') (L := ndl r) (.int 0) (by rw [ndl_len]; omega) (by simp (dsimp := false) (implicitDefEqProofs := false) [seqIt, Ev.guard, exSs, exS, evE.eq_1, evE.eq_2, evE.eq_3, evE.eq_4, evE.eq_5, evE.eq_6, evE.eq_7, evE.eq_8, evE.eq_9, evE.eq_10, evE.eq_11, evE.eq_12, evE.eq_13, evE.eq_14, evE.eq_15, evE.eq_16, evE.eq_17, evE.eq_18, evE.eq_19, evE.eq_20, evE.eq_21, evE.eq_22, evE.eq_23, evE.eq_24, evE.eq_25, evE.eq_26, evE.eq_27, evE.eq_28, evT, evL, evI, evC, evW, startF, setS, idxD, seqOf, ixN, binD, arI, setI, cmpD, intCmp, cmpI, truD, isAny, isD, isNo, pln, vw, eqD, biD, tidy_same, wipe, toR_nx, refIx, augV, valS]) (fun d hd S'' => by simp (dsimp := false) (implicitDefEqProofs := false) [b7e0, exSs, exS, evE.eq_1, evE.eq_2, evE.eq_3, evE.eq_4, evE.eq_5, evE.eq_6, evE.eq_7, evE.eq_8, evE.eq_9, evE.eq_10, evE.eq_11, evE.eq_12, evE.eq_13, evE.eq_14, evE.eq_15, evE.eq_16, evE.eq_17, evE.eq_18, evE.eq_19, evE.eq_20, evE.eq_21, evE.eq_22, evE.eq_23, evE.eq_24, evE.eq_25, evE.eq_26, evE.eq_27, evE.eq_28, evT, evL, evI, evC, evW, startF, setS, idxD, seqOf, ixN, binD, arI, setI, cmpD, intCmp, cmpI, truD, isAny, isD, isNo, pln, vw, eqD, biD, tidy_same, wipe, toR_nx, refIx, augV, valS])
      rw [ndl_len] at ez
      unfold b7e1
      exact ez⟩)
  rw [ndl_len, ← TB_zero] at ea
  obtain ⟨st, w, es⟩ := f_steps n hm
  obtain ⟨st', w', es⟩ := es (S ++ TB S.length (tab l r 0))
  obtain ⟨z3, z4, z5, el⟩ := cr_loop (n + 1) S (some (tn l)) (some (tn r)) none st' 0 l.sum none none none w'
  have cut : cutOk S (S ++ TB S.length (full l r)) = true := by simp [cutOk]
  have nb : below S.length (.ref S.length) = false := by simp [below]
  have g := ag0 S (TB S.length (full l r))
  have gl : (full l r).length = l.length := tab_len l r _
  have nl := TB_refs (b := S.length) (r := r) h0
  simp (dsimp := false) (implicitDefEqProofs := false) [b7, ea, es, seqIt, Ev.guard, el, exSs, exS, evE.eq_1, evE.eq_2, evE.eq_3, evE.eq_4, evE.eq_5, evE.eq_6, evE.eq_7, evE.eq_8, evE.eq_9, evE.eq_10, evE.eq_11, evE.eq_12, evE.eq_13, evE.eq_14, evE.eq_15, evE.eq_16, evE.eq_17, evE.eq_18, evE.eq_19, evE.eq_20, evE.eq_21, evE.eq_22, evE.eq_23, evE.eq_24, evE.eq_25, evE.eq_26, evE.eq_27, evE.eq_28, evT, evL, evI, evC, evW, startF, setS, idxD, seqOf, ixN, binD, arI, setI, cmpD, intCmp, cmpI, truD, isAny, isD, isNo, pln, vw, eqD, biD, tidy_same, wipe, toR_nx, refIx, augV, valS]
  exact tidy_refs (S' := S ++ TB S.length (full l r)) (L := refs (S.length + 1) l.length) cut (by rw [g]; simp [TB, gl]) nl
theorem f_rows0 (n : Nat) {r : List Nat} (hm : Mg [] r) (S : Store) : run T (n + 3) 7 [tn [], tn r] S = .ok (.lst []) S := by
  rw [run_def (F := ⟨2, 7, b7, true⟩) rfl rfl]
  have hr := hm.rl
  have ea := lc_map (C := csOf T (n + 2)) (own := [6]) (tg := .nm 6) (it := .seq (.var 0)) (e := b7e1) (ρ := [some (tn []), some (tn r), none, none, none, none, none]) (S := S) (l := []) (g := []) (fun d => d)
    (by simp (dsimp := false) (implicitDefEqProofs := false) [seqIt, Ev.guard, ndl, exSs, exS, evE.eq_1, evE.eq_2, evE.eq_3, evE.eq_4, evE.eq_5, evE.eq_6, evE.eq_7, evE.eq_8, evE.eq_9, evE.eq_10, evE.eq_11, evE.eq_12, evE.eq_13, evE.eq_14, evE.eq_15, evE.eq_16, evE.eq_17, evE.eq_18, evE.eq_19, evE.eq_20, evE.eq_21, evE.eq_22, evE.eq_23, evE.eq_24, evE.eq_25, evE.eq_26, evE.eq_27, evE.eq_28, evT, evL, evI, evC, evW, startF, setS, idxD, seqOf, ixN, binD, arI, setI, cmpD, intCmp, cmpI, truD, isAny, isD, isNo, pln, vw, eqD, biD, tidy_same, wipe, toR_nx, refIx, augV, valS]) (fun c => gOk_nil _) (fun d hd => by simp at hd) (by simp) (by simp [belowL])
  obtain ⟨st, w, es⟩ := f_steps n hm
  obtain ⟨st', w', es⟩ := es S
  have : st' = [] := by
    cases st' with
    | nil => rfl
    | cons q st' => exact absurd w'.1.hi (by simp)
  subst this
  simp (dsimp := false) (implicitDefEqProofs := false) [b7, ea, es, seqIt, Ev.guard, forL_nil, exSs, exS, evE.eq_1, evE.eq_2, evE.eq_3, evE.eq_4, evE.eq_5, evE.eq_6, evE.eq_7, evE.eq_8, evE.eq_9, evE.eq_10, evE.eq_11, evE.eq_12, evE.eq_13, evE.eq_14, evE.eq_15, evE.eq_16, evE.eq_17, evE.eq_18, evE.eq_19, evE.eq_20, evE.eq_21, evE.eq_22, evE.eq_23, evE.eq_24, evE.eq_25, evE.eq_26, evE.eq_27, evE.eq_28, evT, evL, evI, evC, evW, startF, setS, idxD, seqOf, ixN, binD, arI, setI, cmpD, intCmp, cmpI, truD, isAny, isD, isNo, pln, vw, eqD, biD, tidy_same, wipe, toR_nx, refIx, augV, valS]
theorem full_nil (r : List Nat) : full [] r = [] := by simp [full, tab]
/-- corner_table -/
theorem f_corner (n : Nat) {l r : List Nat} (hm : Mg l r) (S : Store) : run T (n + 5) 13 [tn l, tn r] S = .ok (tbD (full l r)) S := by
  have ea := f_askm n hm S
  have fl : (full l r).length = l.length := tab_len l r _
  have hl := hm.ll
  rw [run_def (F := ⟨2, 2, b13, false⟩) rfl rfl]
  by_cases h0 : l = []
  · subst h0
    have er := f_rows0 (n + 1) hm S
    have ef : run T (n + 4) 8 [.lst []] S = .ok (tbD []) S := by
      rw [run_def (F := ⟨1, 2, b8, false⟩) rfl rfl]
      have e := lc_map (C := csOf T (n + 3)) (own := [1]) (tg := .nm 1) (it := .seq (.var 0)) (e := b8e0) (ρ := [some (.lst []), none]) (S := S) (l := []) (g := []) (fun d => d) (by simp (dsimp := false) (implicitDefEqProofs := false) [seqIt, Ev.guard, exSs, exS, evE.eq_1, evE.eq_2, evE.eq_3, evE.eq_4, evE.eq_5, evE.eq_6, evE.eq_7, evE.eq_8, evE.eq_9, evE.eq_10, evE.eq_11, evE.eq_12, evE.eq_13, evE.eq_14, evE.eq_15, evE.eq_16, evE.eq_17, evE.eq_18, evE.eq_19, evE.eq_20, evE.eq_21, evE.eq_22, evE.eq_23, evE.eq_24, evE.eq_25, evE.eq_26, evE.eq_27, evE.eq_28, evT, evL, evI, evC, evW, startF, setS, idxD, seqOf, ixN, binD, arI, setI, cmpD, intCmp, cmpI, truD, isAny, isD, isNo, pln, vw, eqD, biD, tidy_same, wipe, toR_nx, refIx, augV, valS]) (fun c => gOk_nil _) (fun d hd => by simp at hd) (by simp) (by simp [belowL])
      simp (dsimp := false) (implicitDefEqProofs := false) [b8, e, lstOf, exSs, exS, evE.eq_1, evE.eq_2, evE.eq_3, evE.eq_4, evE.eq_5, evE.eq_6, evE.eq_7, evE.eq_8, evE.eq_9, evE.eq_10, evE.eq_11, evE.eq_12, evE.eq_13, evE.eq_14, evE.eq_15, evE.eq_16, evE.eq_17, evE.eq_18, evE.eq_19, evE.eq_20, evE.eq_21, evE.eq_22, evE.eq_23, evE.eq_24, evE.eq_25, evE.eq_26, evE.eq_27, evE.eq_28, evT, evL, evI, evC, evW, startF, setS, idxD, seqOf, ixN, binD, arI, setI, cmpD, intCmp, cmpI, truD, isAny, isD, isNo, pln, vw, eqD, biD, tidy_same, wipe, toR_nx, refIx, augV, valS]
    rw [full_nil]
    simp (dsimp := false) (implicitDefEqProofs := false) [b13, ea, er, ef, exSs, exS, evE.eq_1, evE.eq_2, evE.eq_3, evE.eq_4, evE.eq_5, evE.eq_6, evE.eq_7, evE.eq_8, evE.eq_9, evE.eq_10, evE.eq_11, evE.eq_12, evE.eq_13, evE.eq_14, evE.eq_15, evE.eq_16, evE.eq_17, evE.eq_18, evE.eq_19, evE.eq_20, evE.eq_21, evE.eq_22, evE.eq_23, evE.eq_24, evE.eq_25, evE.eq_26, evE.eq_27, evE.eq_28, evT, evL, evI, evC, evW, startF, setS, idxD, seqOf, ixN, binD, arI, setI, cmpD, intCmp, cmpI, truD, isAny, isD, isNo, pln, vw, eqD, biD, tidy_same, wipe, toR_nx, refIx, augV, valS]
  · have er := f_rows (n + 1) hm h0 S
    have ef := f_frozen (n + 3) (S := S ++ TB S.length (full l r)) (b := S.length + 1) (k := S.length) (t := full l r) (by omega) (by rw [ag0]; rfl) fun i hi => by
      rw [show S.length + 1 + i = S.length + (1 + i) by omega, ag, show 1 + i = i + 1 by omega]
      have : i < l.length := by omega
      simp [TB, hi]
    simp (dsimp := false) (implicitDefEqProofs := false) [b13, ea, er, ef, exSs, exS, evE.eq_1, evE.eq_2, evE.eq_3, evE.eq_4, evE.eq_5, evE.eq_6, evE.eq_7, evE.eq_8, evE.eq_9, evE.eq_10, evE.eq_11, evE.eq_12, evE.eq_13, evE.eq_14, evE.eq_15, evE.eq_16, evE.eq_17, evE.eq_18, evE.eq_19, evE.eq_20, evE.eq_21, evE.eq_22, evE.eq_23, evE.eq_24, evE.eq_25, evE.eq_26, evE.eq_27, evE.eq_28, evT, evL, evI, evC, evW, startF, setS, idxD, seqOf, ixN, binD, arI, setI, cmpD, intCmp, cmpI, truD, isAny, isD, isNo, pln, vw, eqD, biD, tidy_same, wipe, toR_nx, refIx, augV, valS]
    unfold Ev.tidy
    have b : below S.length (tbD (full l r)) = true := by
      have := tb_belowL S.length (full l r)
      simp [below, this]
    simp [cutOk, b]
end Lw
end
section
set_option maxRecDepth 100000
set_option maxHeartbeats 8000000
namespace Lw
open Ev Lg
section
variable {tg : Tg} {f : Fr → Store → Os} {g : Gd} {d : D} {ds : List D} {ρ ρ1 ρ2 : Fr} {S S2 : Store}
theorem fg_nil (h : gOk g S = true) : forL tg f g [] ρ S = .nx ρ S := by simp only [forL, h, if_true]
theorem fg_nx (h : gOk g S = true) (h1 : setT tg d ρ S = some ρ1) (h2 : f ρ1 S = .nx ρ2 S2) : forL tg f g (d :: ds) ρ S = forL tg f g ds ρ2 S2 := by simp only [forL, h, if_true, h1, h2]
theorem fg_ct (h : gOk g S = true) (h1 : setT tg d ρ S = some ρ1) (h2 : f ρ1 S = .ct ρ2 S2) : forL tg f g (d :: ds) ρ S = forL tg f g ds ρ2 S2 := by simp only [forL, h, if_true, h1, h2]
end
def tF (b m w : Nat) (p : Int) : List (Nat × D) := [(2, .ref (b + 1)), (3, .ref (b + 2)), (4, prD m w p), (5, .ref (b + 3))]
structure TH (S : Store) (b : Nat) (l r : List Nat) (p : Int) (t : Nat) : Prop where
  i : S[b]? = some (.ins 0 (tF b l.length r.length p))
  a : S[b + 1]? = some (rowC (rem l t))
  c : S[b + 2]? = some (rowC (rem r t))
  o : S[b + 3]? = some (.lst (refs (b + 4) l.length))
  w : ∀ i, i < l.length → S[b + 4 + i]? = some (rowC ((tab l r t).getD i []))
theorem gapp {S W : Store} {k : Nat} {c : Cell} (h : S[k]? = some c) : (S ++ W)[k]? = some c := by
  rw [List.getElem?_append_left (List.getElem?_eq_some_iff.mp h).1]
  exact h
theorem att_of {S : Store} {b c q : Nat} {fs : List (Nat × D)} {v : D} (h : S[b]? = some (.ins c fs)) (h2 : (fldsOf T c).contains q = true) (h3 : lookN q fs = some v) : attD T (.ref b) q S = some v := by simp only [attD, h, h2, if_true, h3]
theorem mth_of {S : Store} {b c q v : Nat} {fs : List (Nat × D)} (h : S[b]? = some (.ins c fs)) (h2 : (fs.map (·.1)).contains q = false) (h3 : mthC T c q = some v) : mthOf T (.ref b) q S = some v := by simp only [mthOf, h, h2, Bool.false_eq_true, if_false, h3]
section
variable {S W : Store} {b t : Nat} {l r : List Nat} {p : Int}
theorem TH.app (h : TH S b l r p t) : TH (S ++ W) b l r p t := ⟨gapp h.i, gapp h.a, gapp h.c, gapp h.o, fun i hi => gapp (h.w i hi)⟩
theorem TH.a2 (h : TH S b l r p t) : attD T (.ref b) 2 S = some (.ref (b + 1)) := by exact att_of h.i rfl rfl
theorem TH.a3 (h : TH S b l r p t) : attD T (.ref b) 3 S = some (.ref (b + 2)) := by exact att_of h.i rfl rfl
theorem TH.a4 (h : TH S b l r p t) : attD T (.ref b) 4 S = some (prD l.length r.length p) := by exact att_of h.i rfl rfl
theorem TH.a5 (h : TH S b l r p t) : attD T (.ref b) 5 S = some (.ref (b + 3)) := by exact att_of h.i rfl rfl
theorem TH.m (h : TH S b l r p t) {q v : Nat} (e : mthC T 0 q = some v) (e2 : ((tF b l.length r.length p).map (·.1)).contains q = false) : mthOf T (.ref b) q S = some v := by
  exact mth_of h.i e2 e
end
def zD : Bool → D
  | true => .int 0
  | false => .non
def oD : Option Nat → D
  | some j => .int (j : Nat)
  | none => .non
def wF (m : Nat) : List (Nat × D) := [(15, .ref m), (16, .ref (m + 2)), (17, .ref (m + 3)), (18, .ref (m + 4))]
def WS (S : Store) (bs : List Bool) (cs : List D) (ir : List (Option Nat)) (ic : List D) : Store := S ++ [.lst (bs.map zD), .ins 1 (wF S.length), .lst cs, .lst (ir.map oD), .lst ic]
section
variable {S : Store} {bs : List Bool} {cs : List D} {ir : List (Option Nat)} {ic : List D}
theorem ws_len : (WS S bs cs ir ic).length = S.length + 5 := by simp [WS]
theorem ws_g0 : (WS S bs cs ir ic)[S.length]? = some (.lst (bs.map zD)) := ag0 _ _
theorem ws_g1 : (WS S bs cs ir ic)[S.length + 1]? = some (.ins 1 (wF S.length)) := ag _ _ 1
theorem ws_g2 : (WS S bs cs ir ic)[S.length + 2]? = some (.lst cs) := ag _ _ 2
theorem ws_g3 : (WS S bs cs ir ic)[S.length + 3]? = some (.lst (ir.map oD)) := ag _ _ 3
theorem ws_g4 : (WS S bs cs ir ic)[S.length + 4]? = some (.lst ic) := ag _ _ 4
theorem ws_s0 (bs') : (WS S bs cs ir ic).set S.length (.lst (List.map zD bs')) = WS S bs' cs ir ic := as0 _ _ _
theorem ws_s2 (cs') : (WS S bs cs ir ic).set (S.length + 2) (.lst cs') = WS S bs cs' ir ic := as _ _ 2 _
theorem ws_s3 (ir') : (WS S bs cs ir ic).set (S.length + 3) (.lst (List.map oD ir')) = WS S bs cs ir' ic := as _ _ 3 _
theorem ws_s4 (ic') : (WS S bs cs ir ic).set (S.length + 4) (.lst ic') = WS S bs cs ir ic' := as _ _ 4 _
theorem ws_a0 : attD T (.ref (S.length + 1)) 15 (WS S bs cs ir ic) = some (.ref S.length) := by exact att_of ws_g1 rfl rfl
theorem ws_a1 : attD T (.ref (S.length + 1)) 16 (WS S bs cs ir ic) = some (.ref (S.length + 2)) := by exact att_of ws_g1 rfl rfl
theorem ws_a2 : attD T (.ref (S.length + 1)) 17 (WS S bs cs ir ic) = some (.ref (S.length + 3)) := by exact att_of ws_g1 rfl rfl
theorem ws_a3 : attD T (.ref (S.length + 1)) 18 (WS S bs cs ir ic) = some (.ref (S.length + 4)) := by exact att_of ws_g1 rfl rfl
theorem ws_m : mthOf T (.ref (S.length + 1)) 19 (WS S bs cs ir ic) = some 41 := by
  exact mth_of ws_g1 rfl rfl
end
theorem TH.ws {S : Store} {b t : Nat} {l r : List Nat} {p : Int} (h : TH S b l r p t) (bs : List Bool) (cs : List D) (ir : List (Option Nat)) (ic : List D) : TH (WS S bs cs ir ic) b l r p t := h.app
theorem rep_mid {α : Type} (j k : Nat) (x y z : α) : (List.replicate j x ++ List.replicate (k + 1) y)[j]? = some y ∧ (List.replicate j x ++ List.replicate (k + 1) y).set j x = List.replicate (j + 1) x ++ List.replicate k y := by
  constructor
  · simp
  · rw [List.set_append_right _ _ (by simp), List.length_replicate, Nat.sub_self, List.replicate_succ, List.set_cons_zero]
    rw [List.replicate_succ' (n := j), List.append_assoc]
    rfl
section
variable {S : Store} {b t : Nat} {l r : List Nat} {p : Int}
/-- a row with something left reaches all columns first -/
theorem rs_fresh (n : Nat) (i : Nat) (bs : List Bool) (ir : List (Option Nat)) (y0 : Option D) : ∀ (k j : Nat) (c : Bool) (y5 y6 : Option D), ∃ z5 z6, forL (.tp [5, 6]) (fun ρ S => exSs (csOf T (n + 1)) b31l0 ρ S) [] (enmL (j : Nat) ((List.replicate k p).map .int)) [y0, some (.ref (S.length + 1)), some (.bl c), some (.int (i : Nat)), some (.int 0), y5, y6] (WS S bs (List.replicate j (.int p) ++ List.replicate k .non) ir (List.replicate j (.int (i : Nat)) ++ List.replicate k .non)) = .nx [y0, some (.ref (S.length + 1)), some (.bl (c || decide (0 < k))), some (.int (i : Nat)), some (.int 0), z5, z6] (WS S bs (List.replicate (j + k) (.int p)) ir (List.replicate (j + k) (.int (i : Nat))))
  | 0, j, c, y5, y6 => ⟨y5, y6, by simp [enmL, forL_nil]⟩
  | k + 1, j, c, y5, y6 => by
    obtain ⟨z5, z6, e⟩ := rs_fresh n i bs ir y0 k (j + 1) true (some (.int (j : Nat))) (some (.int p))
    refine ⟨z5, z6, ?_⟩
    have ec : (c || decide (0 < k + 1)) = (true || decide (0 < k)) := by simp
    rw [ec, show j + (k + 1) = j + 1 + k by omega]
    push_cast at e
    rw [← e, List.replicate_succ (n := k) (a := p), List.map_cons, enmL]
    obtain ⟨g1, s1⟩ := rep_mid j k (D.int p) D.non D.non
    obtain ⟨g2, s2⟩ := rep_mid j k (D.int (i : Nat)) D.non D.non
    have l1 : (List.replicate j (D.int p) ++ List.replicate (k + 1) D.non).length = j + (k + 1) := by simp
    have l2 : (List.replicate j (D.int (i : Nat)) ++ List.replicate (k + 1) D.non).length = j + (k + 1) := by simp
    generalize List.replicate j (D.int p) ++ List.replicate (k + 1) D.non = ca at g1 s1 l1 ⊢
    generalize List.replicate j (D.int (i : Nat)) ++ List.replicate (k + 1) D.non = cb at g2 s2 l2 ⊢
    obtain ⟨w, hw⟩ : ∃ w, w = j + (k + 1) := ⟨_, rfl⟩
    rw [← hw] at l1 l2
    have hj : (j : Int) < w := by omega
    exact forL_nx rfl (by simp (dsimp := false) (implicitDefEqProofs := false) [b31l0, ws_a1, ws_a3, ws_g2, ws_g4, l1, l2, hj, g1, g2, s1, s2, ws_s2, ws_s4, exSs, exS, evE.eq_1, evE.eq_2, evE.eq_3, evE.eq_4, evE.eq_5, evE.eq_6, evE.eq_7, evE.eq_8, evE.eq_9, evE.eq_10, evE.eq_11, evE.eq_12, evE.eq_13, evE.eq_14, evE.eq_15, evE.eq_16, evE.eq_17, evE.eq_18, evE.eq_19, evE.eq_20, evE.eq_21, evE.eq_22, evE.eq_23, evE.eq_24, evE.eq_25, evE.eq_26, evE.eq_27, evE.eq_28, evT, evL, evI, evC, evW, startF, setS, idxD, seqOf, ixN, binD, arI, setI, cmpD, intCmp, cmpI, truD, isAny, isD, isNo, pln, vw, eqD, biD, tidy_same, wipe, toR_nx, refIx, augV, valS])
theorem rs_none (n : Nat) (i : Nat) (bs : List Bool) (ir : List (Option Nat)) (ic : List D) (y0 y2 y3 : Option D) : ∀ (k j : Nat) (y5 y6 : Option D), j + k = r.length → ∃ z5 z6, forL (.tp [5, 6]) (fun ρ S => exSs (csOf T (n + 1)) b31l0 ρ S) [] (enmL (j : Nat) ((List.replicate k p).map .int)) [y0, some (.ref (S.length + 1)), y2, y3, some (.int 0), y5, y6] (WS S bs ((List.replicate r.length p).map .int) ir ic) = .nx [y0, some (.ref (S.length + 1)), y2, y3, some (.int 0), z5, z6] (WS S bs ((List.replicate r.length p).map .int) ir ic)
  | 0, j, y5, y6, _ => ⟨y5, y6, by simp [enmL, forL_nil]⟩
  | k + 1, j, y5, y6, h => by
    obtain ⟨z5, z6, e⟩ := rs_none n i bs ir ic y0 y2 y3 k (j + 1) (some (.int (j : Nat))) (some (.int p)) (by omega)
    refine ⟨z5, z6, ?_⟩
    push_cast at e
    rw [← e, List.replicate_succ (n := k) (a := p), List.map_cons, enmL]
    have g1 := rep_get (w := r.length) (j := j) p (by omega)
    have l1 : ((List.replicate r.length p).map D.int).length = r.length := by simp
    generalize (List.replicate r.length p).map D.int = ca at g1 l1 ⊢
    have hj : (j : Int) < r.length := by omega
    exact forL_nx rfl (by simp (dsimp := false) (implicitDefEqProofs := false) [b31l0, ws_a1, ws_g2, l1, hj, g1, exSs, exS, evE.eq_1, evE.eq_2, evE.eq_3, evE.eq_4, evE.eq_5, evE.eq_6, evE.eq_7, evE.eq_8, evE.eq_9, evE.eq_10, evE.eq_11, evE.eq_12, evE.eq_13, evE.eq_14, evE.eq_15, evE.eq_16, evE.eq_17, evE.eq_18, evE.eq_19, evE.eq_20, evE.eq_21, evE.eq_22, evE.eq_23, evE.eq_24, evE.eq_25, evE.eq_26, evE.eq_27, evE.eq_28, evT, evL, evI, evC, evW, startF, setS, idxD, seqOf, ixN, binD, arI, setI, cmpD, intCmp, cmpI, truD, isAny, isD, isNo, pln, vw, eqD, biD, tidy_same, wipe, toR_nx, refIx, augV, valS])
theorem pr_get {m w i : Nat} (p : Int) (h : i < m) : ((PR m w p).map tupI)[i]? = some (tupI (List.replicate w p)) := by simp [PR, h]
theorem rs_out2 (n : Nat) (th : TH S b l r p t) (bs : List Bool) (ir : List (Option Nat)) (ic : List D) (y2 : Option D) : ∀ (bb : List Bool) (i : Nat) (y3 y4 y5 y6 : Option D), i + bb.length = l.length → ∃ z3 z4 z5 z6, forL (.tp [3, 4]) (fun ρ S => exSs (csOf T (n + 1)) b31l1 ρ S) [] (enmL (i : Nat) (bb.map zD)) [some (.ref b), some (.ref (S.length + 1)), y2, y3, y4, y5, y6] (WS S bs ((List.replicate r.length p).map .int) ir ic) = .nx [some (.ref b), some (.ref (S.length + 1)), y2, z3, z4, z5, z6] (WS S bs ((List.replicate r.length p).map .int) ir ic)
  | [], i, y3, y4, y5, y6, _ => ⟨y3, y4, y5, y6, by simp [enmL, forL_nil]⟩
  | false :: bb, i, y3, y4, y5, y6, h => by
    obtain ⟨z3, z4, z5, z6, e⟩ := rs_out2 n th bs ir ic y2 bb (i + 1) (some (.int (i : Nat))) (some .non) y5 y6 (by simp at h; omega)
    refine ⟨z3, z4, z5, z6, ?_⟩
    push_cast at e
    rw [← e, List.map_cons, enmL]
    exact forL_ct rfl (by simp (dsimp := false) (implicitDefEqProofs := false) [b31l1, zD, exSs, exS, evE.eq_1, evE.eq_2, evE.eq_3, evE.eq_4, evE.eq_5, evE.eq_6, evE.eq_7, evE.eq_8, evE.eq_9, evE.eq_10, evE.eq_11, evE.eq_12, evE.eq_13, evE.eq_14, evE.eq_15, evE.eq_16, evE.eq_17, evE.eq_18, evE.eq_19, evE.eq_20, evE.eq_21, evE.eq_22, evE.eq_23, evE.eq_24, evE.eq_25, evE.eq_26, evE.eq_27, evE.eq_28, evT, evL, evI, evC, evW, startF, setS, idxD, seqOf, ixN, binD, arI, setI, cmpD, intCmp, cmpI, truD, isAny, isD, isNo, pln, vw, eqD, biD, tidy_same, wipe, toR_nx, refIx, augV, valS])
  | true :: bb, i, y3, y4, y5, y6, h => by
    obtain ⟨z5, z6, e1⟩ := rs_none (S := S) (r := r) (p := p) n i bs ir ic (some (.ref b)) y2 (some (.int (i : Nat))) r.length 0 y5 y6 (by omega)
    obtain ⟨w3, w4, w5, w6, e⟩ := rs_out2 n th bs ir ic y2 bb (i + 1) (some (.int (i : Nat))) (some (.int 0)) z5 z6 (by simp at h; omega)
    refine ⟨w3, w4, w5, w6, ?_⟩
    push_cast at e
    rw [← e, List.map_cons, enmL]
    have a4 := (th.ws bs ((List.replicate r.length p).map .int) ir ic).a4
    have hi : i < l.length := by simp at h; omega
    have hi' : (i : Int) < l.length := by omega
    have pg := pr_get (w := r.length) p hi
    have pl : (PR l.length r.length p).length = l.length := by simp [PR]
    have z0 : ((0 : Nat) : Int) = 0 := rfl
    rw [z0] at e1
    exact forL_nx rfl (by simp (dsimp := false) (implicitDefEqProofs := false) [b31l1, zD, a4, pl, hi', pg, enmIt, Ev.guard, e1, -List.map_replicate, -List.getElem?_map, tupI, exSs, exS, evE.eq_1, evE.eq_2, evE.eq_3, evE.eq_4, evE.eq_5, evE.eq_6, evE.eq_7, evE.eq_8, evE.eq_9, evE.eq_10, evE.eq_11, evE.eq_12, evE.eq_13, evE.eq_14, evE.eq_15, evE.eq_16, evE.eq_17, evE.eq_18, evE.eq_19, evE.eq_20, evE.eq_21, evE.eq_22, evE.eq_23, evE.eq_24, evE.eq_25, evE.eq_26, evE.eq_27, evE.eq_28, evT, evL, evI, evC, evW, startF, setS, idxD, seqOf, ixN, binD, arI, setI, cmpD, intCmp, cmpI, truD, isAny, isD, isNo, pln, vw, eqD, biD, tidy_same, wipe, toR_nx, refIx, augV, valS])
theorem rs_out1 (n : Nat) (th : TH S b l r p t) (bs : List Bool) (ir : List (Option Nat)) (hr : 0 < r.length) (bb : List Bool) : ∀ (k i0 : Nat) (y3 y4 y5 y6 : Option D), i0 + (k + 1 + bb.length) = l.length → ∃ z3 z4 z5 z6, forL (.tp [3, 4]) (fun ρ S => exSs (csOf T (n + 1)) b31l1 ρ S) [] (enmL (i0 : Nat) ((List.replicate k false ++ true :: bb).map zD)) [some (.ref b), some (.ref (S.length + 1)), some (.bl false), y3, y4, y5, y6] (WS S bs (List.replicate r.length .non) ir (List.replicate r.length .non)) = .nx [some (.ref b), some (.ref (S.length + 1)), some (.bl true), z3, z4, z5, z6] (WS S bs ((List.replicate r.length p).map .int) ir (List.replicate r.length (.int (i0 + k : Nat))))
  | 0, i, y3, y4, y5, y6, h => by
    obtain ⟨z5, z6, e1⟩ := rs_fresh (S := S) (p := p) n i bs ir (some (.ref b)) r.length 0 false y5 y6
    obtain ⟨w3, w4, w5, w6, e⟩ := rs_out2 n th bs ir (List.replicate r.length (.int (i : Nat))) (some (.bl true)) bb (i + 1) (some (.int (i : Nat))) (some (.int 0)) z5 z6 (by omega)
    refine ⟨w3, w4, w5, w6, ?_⟩
    push_cast at e
    rw [show i + 0 = i from rfl, ← e, List.replicate_zero, List.nil_append, List.map_cons, enmL]
    have a4 := (th.ws bs (List.replicate r.length .non) ir (List.replicate r.length .non)).a4
    have hi : i < l.length := by omega
    have hi' : (i : Int) < l.length := by omega
    have pg := pr_get (w := r.length) p hi
    have pl : (PR l.length r.length p).length = l.length := by simp [PR]
    have z0 : ((0 : Nat) : Int) = 0 := rfl
    have d0 : (false || decide (0 < r.length)) = true := by simp [hr]
    rw [z0, d0, List.replicate_zero, List.nil_append, List.replicate_zero, List.nil_append, Nat.zero_add, ← List.map_replicate (f := D.int) (a := p) (n := r.length)] at e1
    exact forL_nx rfl (by simp (dsimp := false) (implicitDefEqProofs := false) [b31l1, zD, a4, pl, hi', pg, enmIt, Ev.guard, e1, -List.map_replicate, -List.getElem?_map, tupI, exSs, exS, evE.eq_1, evE.eq_2, evE.eq_3, evE.eq_4, evE.eq_5, evE.eq_6, evE.eq_7, evE.eq_8, evE.eq_9, evE.eq_10, evE.eq_11, evE.eq_12, evE.eq_13, evE.eq_14, evE.eq_15, evE.eq_16, evE.eq_17, evE.eq_18, evE.eq_19, evE.eq_20, evE.eq_21, evE.eq_22, evE.eq_23, evE.eq_24, evE.eq_25, evE.eq_26, evE.eq_27, evE.eq_28, evT, evL, evI, evC, evW, startF, setS, idxD, seqOf, ixN, binD, arI, setI, cmpD, intCmp, cmpI, truD, isAny, isD, isNo, pln, vw, eqD, biD, tidy_same, wipe, toR_nx, refIx, augV, valS])
  | k + 1, i, y3, y4, y5, y6, h => by
    obtain ⟨z3, z4, z5, z6, e⟩ := rs_out1 n th bs ir hr bb k (i + 1) (some (.int (i : Nat))) (some .non) y5 y6 (by omega)
    refine ⟨z3, z4, z5, z6, ?_⟩
    rw [show i + (k + 1) = i + 1 + k by omega]
    push_cast at e ⊢
    rw [← e, List.replicate_succ, List.cons_append, List.map_cons, enmL]
    exact forL_ct rfl (by simp (dsimp := false) (implicitDefEqProofs := false) [b31l1, zD, exSs, exS, evE.eq_1, evE.eq_2, evE.eq_3, evE.eq_4, evE.eq_5, evE.eq_6, evE.eq_7, evE.eq_8, evE.eq_9, evE.eq_10, evE.eq_11, evE.eq_12, evE.eq_13, evE.eq_14, evE.eq_15, evE.eq_16, evE.eq_17, evE.eq_18, evE.eq_19, evE.eq_20, evE.eq_21, evE.eq_22, evE.eq_23, evE.eq_24, evE.eq_25, evE.eq_26, evE.eq_27, evE.eq_28, evT, evL, evI, evC, evW, startF, setS, idxD, seqOf, ixN, binD, arI, setI, cmpD, intCmp, cmpI, truD, isAny, isD, isNo, pln, vw, eqD, biD, tidy_same, wipe, toR_nx, refIx, augV, valS])
theorem f_row1 (n : Nat) (th : TH S b l r p t) (ir : List (Option Nat)) (hr : 0 < r.length) {k : Nat} {bb : List Bool} (h : k + 1 + bb.length = l.length) : run T (n + 2) 31 [.ref b, .ref (S.length + 1)] (WS S (List.replicate k false ++ true :: bb) (List.replicate r.length .non) ir (List.replicate r.length .non)) = .ok (.bl true) (WS S (List.replicate k false ++ true :: bb) ((List.replicate r.length p).map .int) ir (List.replicate r.length (.int (k : Nat)))) := by
  rw [run_def (F := ⟨2, 7, b31, true⟩) rfl rfl]
  obtain ⟨z3, z4, z5, z6, e⟩ := rs_out1 n th (List.replicate k false ++ true :: bb) ir hr bb k 0 none none none none (by omega)
  rw [Nat.zero_add] at e
  have z0 : ((0 : Nat) : Int) = 0 := rfl
  rw [z0] at e
  generalize List.replicate k false ++ true :: bb = bs at e ⊢
  simp (dsimp := false) (implicitDefEqProofs := false) [b31, ws_a0, ws_g0, lstOf, mkL, enmIt, Ev.guard, e, -List.map_replicate, exSs, exS, evE.eq_1, evE.eq_2, evE.eq_3, evE.eq_4, evE.eq_5, evE.eq_6, evE.eq_7, evE.eq_8, evE.eq_9, evE.eq_10, evE.eq_11, evE.eq_12, evE.eq_13, evE.eq_14, evE.eq_15, evE.eq_16, evE.eq_17, evE.eq_18, evE.eq_19, evE.eq_20, evE.eq_21, evE.eq_22, evE.eq_23, evE.eq_24, evE.eq_25, evE.eq_26, evE.eq_27, evE.eq_28, evT, evL, evI, evC, evW, startF, setS, idxD, seqOf, ixN, binD, arI, setI, cmpD, intCmp, cmpI, truD, isAny, isD, isNo, pln, vw, eqD, biD, tidy_same, wipe, toR_nx, refIx, augV, valS]
  exact tidy_len (by simp [ws_len])
theorem f_row2 (n : Nat) (th : TH S b l r p t) (bs : List Bool) (hb : bs.length = l.length) (ir : List (Option Nat)) (ic : List D) : run T (n + 2) 31 [.ref b, .ref (S.length + 1)] (WS S bs ((List.replicate r.length p).map .int) ir ic) = .ok (.bl false) (WS S bs ((List.replicate r.length p).map .int) ir ic) := by
  rw [run_def (F := ⟨2, 7, b31, true⟩) rfl rfl]
  obtain ⟨z3, z4, z5, z6, e⟩ := rs_out2 n th bs ir ic (some (.bl false)) bs 0 none none none none (by omega)
  have z0 : ((0 : Nat) : Int) = 0 := rfl
  rw [z0] at e
  simp (dsimp := false) (implicitDefEqProofs := false) [b31, ws_a0, ws_g0, lstOf, mkL, enmIt, Ev.guard, e, -List.map_replicate, exSs, exS, evE.eq_1, evE.eq_2, evE.eq_3, evE.eq_4, evE.eq_5, evE.eq_6, evE.eq_7, evE.eq_8, evE.eq_9, evE.eq_10, evE.eq_11, evE.eq_12, evE.eq_13, evE.eq_14, evE.eq_15, evE.eq_16, evE.eq_17, evE.eq_18, evE.eq_19, evE.eq_20, evE.eq_21, evE.eq_22, evE.eq_23, evE.eq_24, evE.eq_25, evE.eq_26, evE.eq_27, evE.eq_28, evT, evL, evI, evC, evW, startF, setS, idxD, seqOf, ixN, binD, arI, setI, cmpD, intCmp, cmpI, truD, isAny, isD, isNo, pln, vw, eqD, biD, tidy_same, wipe, toR_nx, refIx, augV, valS]
end
end Lw
end
section
set_option maxRecDepth 100000
set_option maxHeartbeats 8000000
namespace Lw
open Ev Lg
/-- what taking back may change -/
structure Bet (bs : List Bool) (ir : List (Option Nat)) (c : Bool) (bs' : List Bool) (ir' : List (Option Nat)) (c' : Bool) : Prop where
  lb : bs'.length = bs.length
  li : ir'.length = ir.length
  k : ∀ q : Nat, bs[q]? = some true → bs'[q]? = some true ∧ ir'[q]? = ir[q]?
  n : bs.count true ≤ bs'.count true
  m : c' = true → c = true ∨ bs.count true < bs'.count true
theorem Bet.refl (bs : List Bool) (ir : List (Option Nat)) (c : Bool) : Bet bs ir c bs ir c := ⟨rfl, rfl, fun _ h => ⟨h, rfl⟩, Nat.le_refl _, fun h => .inl h⟩
theorem Bet.trans {bs bs' bs'' : List Bool} {ir ir' ir'' : List (Option Nat)} {c c' c'' : Bool} (h : Bet bs ir c bs' ir' c') (g : Bet bs' ir' c' bs'' ir'' c'') : Bet bs ir c bs'' ir'' c'' := by
  refine ⟨g.lb.trans h.lb, g.li.trans h.li, fun q hq => ?_, Nat.le_trans h.n g.n, fun hc => ?_⟩
  · obtain ⟨a1, a2⟩ := h.k q hq
    obtain ⟨b1, b2⟩ := g.k q a1
    exact ⟨b1, b2.trans a2⟩
  · have := h.n
    have := g.n
    rcases g.m hc with h1 | h1
    · rcases h.m h1 with h2 | h2
      · exact .inl h2
      · exact .inr (by omega)
    · exact .inr (by omega)
theorem count_set {bs : List Bool} {q : Nat} (h : bs[q]? = some false) : (bs.set q true).count true = bs.count true + 1 := by
  induction bs generalizing q with
  | nil => simp at h
  | cons a bs ih =>
    cases q with
    | zero =>
      simp at h
      subst h
      simp
    | succ q =>
      simp at h
      rw [List.set_cons_succ, List.count_cons, List.count_cons, ih h]
      omega
theorem Bet.put {bs : List Bool} {ir : List (Option Nat)} {c : Bool} {q : Nat} (x : Option Nat) (h : bs[q]? = some false) : Bet bs ir c (bs.set q true) (ir.set q x) true := by
  refine ⟨by simp, by simp, fun k hk => ?_, ?_, fun _ => .inr ?_⟩
  · have hne : q ≠ k := by
      intro e
      subst e
      rw [h] at hk
      simp at hk
    rw [List.getElem?_set_ne hne, List.getElem?_set_ne hne]
    exact ⟨hk, rfl⟩
  · rw [count_set h]; omega
  · rw [count_set h]; omega
theorem refs_cons (b k : Nat) : refs b (k + 1) = .ref b :: refs (b + 1) k := by
  unfold refs
  rw [List.range_succ_eq_map, List.map_cons, List.map_map, Nat.add_zero]
  congr 1
  refine List.map_congr_left fun i _ => ?_
  simp only [Function.comp]
  congr 1
  omega
theorem zD_set (bs : List Bool) (q : Nat) : (bs.map zD).set q (.int 0) = (bs.set q true).map zD := by rw [List.map_set]; rfl
theorem oD_set (ir : List (Option Nat)) (q j : Nat) : (ir.map oD).set q (.int (j : Nat)) = (ir.set q (some j)).map oD := by rw [List.map_set]; rfl
section
variable {S : Store} {b t : Nat} {l r : List Nat} {p : Int}
theorem cs_in (n : Nat) (th : TH S b l r p t) (cs ic : List D) {j : Nat} (hj : j < r.length) : ∀ (k i : Nat) (bs : List Bool) (ir : List (Option Nat)) (c : Bool) (y5 y6 y7 : Option D), i + k = l.length → bs.length = l.length → ir.length = l.length →
    ∃ bs' ir' c' z5 z6 z7, forL (.tp [5, 6]) (fun ρ S => exSs (csOf T (n + 1)) b32l0 ρ S) [(b + 3, .lst (refs (b + 4) l.length))] (enmL (i : Nat) (refs (b + 4 + i) k)) [some (.ref b), some (.ref (S.length + 1)), some (.bl c), some (.int (j : Nat)), some (.int p), y5, y6, y7] (WS S bs cs ir ic) = .nx [some (.ref b), some (.ref (S.length + 1)), some (.bl c'), some (.int (j : Nat)), some (.int p), z5, z6, z7] (WS S bs' cs ir' ic) ∧ Bet bs ir c bs' ir' c'
  | 0, i, bs, ir, c, y5, y6, y7, _, _, _ => ⟨bs, ir, c, y5, y6, y7, fg_nil (gOk_one0 (th.ws bs cs ir ic).o), Bet.refl _ _ _⟩
  | k + 1, i, bs, ir, c, y5, y6, y7, h, hb, hi0 => by
    have hi : i < l.length := by omega
    have gk := gOk_one0 (th.ws bs cs ir ic).o
    have a4 := (th.ws bs cs ir ic).a4
    have gw : (WS S bs cs ir ic)[b + 4 + i]? = some (.lst (ndl ((tab l r t).getD i []))) := (th.ws bs cs ir ic).w i hi
    obtain ⟨q1, q2⟩ := tab_get (t := t) hi hj
    have gj := ndl_get (l := (tab l r t).getD i []) (k := j) (by rw [q2]; exact hj)
    rw [q1] at gj
    have q3 : (ndl ((tab l r t).getD i [])).length = r.length := by rw [ndl_len, q2]
    generalize ndl ((tab l r t).getD i []) = row at gw gj q3
    generalize ov l r t i j = x at gj
    have hi' : (i : Int) < l.length := by omega
    have hj' : (j : Int) < r.length := by omega
    have ee : enmL (i : Nat) (refs (b + 4 + i) (k + 1)) = .tup [.int (i : Nat), .ref (b + 4 + i)] :: enmL ((i + 1 : Nat) : Int) (refs (b + 4 + (i + 1)) k) := by
      rw [refs_cons, enmL]
      push_cast
      rfl
    rw [ee]
    by_cases hx : x = 0
    · subst hx
      obtain ⟨bs', ir', c', z5, z6, z7, e, bet⟩ := cs_in n th cs ic hj k (i + 1) bs ir c (some (.int (i : Nat))) (some (.ref (b + 4 + i))) y7 (by omega) hb hi0
      refine ⟨bs', ir', c', z5, z6, z7, ?_, bet⟩
      rw [← e]
      have gj : row[j]? = some (.int 0) := gj
      exact fg_ct gk rfl (by simp (dsimp := false) (implicitDefEqProofs := false) [b32l0, gw, q3, hj', gj, exSs, exS, evE.eq_1, evE.eq_2, evE.eq_3, evE.eq_4, evE.eq_5, evE.eq_6, evE.eq_7, evE.eq_8, evE.eq_9, evE.eq_10, evE.eq_11, evE.eq_12, evE.eq_13, evE.eq_14, evE.eq_15, evE.eq_16, evE.eq_17, evE.eq_18, evE.eq_19, evE.eq_20, evE.eq_21, evE.eq_22, evE.eq_23, evE.eq_24, evE.eq_25, evE.eq_26, evE.eq_27, evE.eq_28, evT, evL, evI, evC, evW, startF, setS, idxD, seqOf, ixN, binD, arI, setI, cmpD, intCmp, cmpI, truD, isAny, isD, isNo, pln, vw, eqD, biD, tidy_same, wipe, toR_nx, refIx, augV, valS])
    · have hx' : (((x : Nat) : Int) == 0) = false := beq_eq_false_iff_ne.mpr (by omega)
      have pg := pr_get (w := r.length) p hi
      have pl : (PR l.length r.length p).length = l.length := by simp [PR]
      have pj := rep_get (w := r.length) (j := j) p hj
      have bl : (bs.map zD).length = l.length := by simp [hb]
      have il : (ir.map oD).length = l.length := by simp [hi0]
      cases hv : bs[i]'(by omega) with
      | true =>
        obtain ⟨bs', ir', c', z5, z6, z7, e, bet⟩ := cs_in n th cs ic hj k (i + 1) bs ir c (some (.int (i : Nat))) (some (.ref (b + 4 + i))) (some (.int 0)) (by omega) hb hi0
        refine ⟨bs', ir', c', z5, z6, z7, ?_, bet⟩
        rw [← e]
        have bg : (bs.map zD)[i]? = some (.int 0) := by
          rw [List.getElem?_map, List.getElem?_eq_getElem (by omega), hv]
          rfl
        generalize e1 : bs.map zD = bm at bg bl
        have g0 := ws_g0 (S := S) (bs := bs) (cs := cs) (ir := ir) (ic := ic)
        rw [e1] at g0
        exact fg_nx gk rfl (by simp (dsimp := false) (implicitDefEqProofs := false) [b32l0, gw, q3, hj', gj, hx', a4, pl, hi', pg, tupI, pj, ws_a0, g0, bl, bg, -List.map_replicate, -List.getElem?_map, exSs, exS, evE.eq_1, evE.eq_2, evE.eq_3, evE.eq_4, evE.eq_5, evE.eq_6, evE.eq_7, evE.eq_8, evE.eq_9, evE.eq_10, evE.eq_11, evE.eq_12, evE.eq_13, evE.eq_14, evE.eq_15, evE.eq_16, evE.eq_17, evE.eq_18, evE.eq_19, evE.eq_20, evE.eq_21, evE.eq_22, evE.eq_23, evE.eq_24, evE.eq_25, evE.eq_26, evE.eq_27, evE.eq_28, evT, evL, evI, evC, evW, startF, setS, idxD, seqOf, ixN, binD, arI, setI, cmpD, intCmp, cmpI, truD, isAny, isD, isNo, pln, vw, eqD, biD, tidy_same, wipe, toR_nx, refIx, augV, valS])
      | false =>
        obtain ⟨bs', ir', c', z5, z6, z7, e, bet⟩ := cs_in n th cs ic hj k (i + 1) (bs.set i true) (ir.set i (some j)) true (some (.int (i : Nat))) (some (.ref (b + 4 + i))) (some (.int 0)) (by omega) (by simpa using hb) (by simpa using hi0)
        refine ⟨bs', ir', c', z5, z6, z7, ?_, (Bet.put (some j) (by rw [List.getElem?_eq_getElem (by omega), hv])).trans bet⟩
        rw [← e]
        have bg : (bs.map zD)[i]? = some .non := by
          rw [List.getElem?_map, List.getElem?_eq_getElem (by omega), hv]
          rfl
        have s0 := ws_s0 (S := S) (bs := bs) (cs := cs) (ir := ir) (ic := ic) (bs.set i true)
        have s3 := ws_s3 (S := S) (bs := bs.set i true) (cs := cs) (ir := ir) (ic := ic) (ir.set i (some j))
        have g0 := ws_g0 (S := S) (bs := bs) (cs := cs) (ir := ir) (ic := ic)
        have g3 := ws_g3 (S := S) (bs := bs.set i true) (cs := cs) (ir := ir) (ic := ic)
        have st1 := zD_set bs i
        have st3 := oD_set ir i j
        have a2 := ws_a2 (S := S) (bs := bs.set i true) (cs := cs) (ir := ir) (ic := ic)
        rw [← st1] at s0
        rw [← st3] at s3
        generalize bs.map zD = bm at bg bl g0 s0 st1
        generalize ir.map oD = im at il g3 s3 st3
        exact fg_nx gk rfl (by simp (dsimp := false) (implicitDefEqProofs := false) [b32l0, gw, q3, hj', gj, hx', a4, pl, hi', pg, tupI, pj, ws_a0, g0, bl, bg, s0, a2, g3, il, s3, -List.map_replicate, -List.getElem?_map, exSs, exS, evE.eq_1, evE.eq_2, evE.eq_3, evE.eq_4, evE.eq_5, evE.eq_6, evE.eq_7, evE.eq_8, evE.eq_9, evE.eq_10, evE.eq_11, evE.eq_12, evE.eq_13, evE.eq_14, evE.eq_15, evE.eq_16, evE.eq_17, evE.eq_18, evE.eq_19, evE.eq_20, evE.eq_21, evE.eq_22, evE.eq_23, evE.eq_24, evE.eq_25, evE.eq_26, evE.eq_27, evE.eq_28, evT, evL, evI, evC, evW, startF, setS, idxD, seqOf, ixN, binD, arI, setI, cmpD, intCmp, cmpI, truD, isAny, isD, isNo, pln, vw, eqD, biD, tidy_same, wipe, toR_nx, refIx, augV, valS])
theorem cs_out (n : Nat) (th : TH S b l r p t) (cs ic : List D) : ∀ (k j : Nat) (bs : List Bool) (ir : List (Option Nat)) (c : Bool) (y3 y4 y5 y6 y7 : Option D), j + k = r.length → bs.length = l.length → ir.length = l.length →
    ∃ bs' ir' c' z3 z4 z5 z6 z7, forL (.tp [3, 4]) (fun ρ S => exSs (csOf T (n + 1)) b32l1 ρ S) [] (enmL (j : Nat) ((List.replicate k p).map .int)) [some (.ref b), some (.ref (S.length + 1)), some (.bl c), y3, y4, y5, y6, y7] (WS S bs cs ir ic) = .nx [some (.ref b), some (.ref (S.length + 1)), some (.bl c'), z3, z4, z5, z6, z7] (WS S bs' cs ir' ic) ∧ Bet bs ir c bs' ir' c'
  | 0, j, bs, ir, c, y3, y4, y5, y6, y7, _, _, _ => ⟨bs, ir, c, y3, y4, y5, y6, y7, by simp [enmL, forL_nil], Bet.refl _ _ _⟩
  | k + 1, j, bs, ir, c, y3, y4, y5, y6, y7, h, hb, hi0 => by
    obtain ⟨bs1, ir1, c1, z5, z6, z7, e1, bet1⟩ := cs_in n th cs ic (j := j) (by omega) l.length 0 bs ir c y5 y6 y7 (by omega) hb hi0
    obtain ⟨bs', ir', c', w3, w4, w5, w6, w7, e, bet⟩ := cs_out n th cs ic k (j + 1) bs1 ir1 c1 (some (.int (j : Nat))) (some (.int p)) z5 z6 z7 (by omega) (by rw [bet1.lb]; exact hb) (by rw [bet1.li]; exact hi0)
    refine ⟨bs', ir', c', w3, w4, w5, w6, w7, ?_, bet1.trans bet⟩
    push_cast at e
    rw [← e, List.replicate_succ (n := k) (a := p), List.map_cons, enmL]
    have a5 := (th.ws bs cs ir ic).a5
    have go := (th.ws bs cs ir ic).o
    have z0 : ((0 : Nat) : Int) = 0 := rfl
    rw [z0, Nat.add_zero] at e1
    exact forL_nx rfl (by simp (dsimp := false) (implicitDefEqProofs := false) [b32l1, a5, enmIt, Ev.guard, go, e1, exSs, exS, evE.eq_1, evE.eq_2, evE.eq_3, evE.eq_4, evE.eq_5, evE.eq_6, evE.eq_7, evE.eq_8, evE.eq_9, evE.eq_10, evE.eq_11, evE.eq_12, evE.eq_13, evE.eq_14, evE.eq_15, evE.eq_16, evE.eq_17, evE.eq_18, evE.eq_19, evE.eq_20, evE.eq_21, evE.eq_22, evE.eq_23, evE.eq_24, evE.eq_25, evE.eq_26, evE.eq_27, evE.eq_28, evT, evL, evI, evC, evW, startF, setS, idxD, seqOf, ixN, binD, arI, setI, cmpD, intCmp, cmpI, truD, isAny, isD, isNo, pln, vw, eqD, biD, tidy_same, wipe, toR_nx, refIx, augV, valS])
theorem f_col (n : Nat) (th : TH S b l r p t) (ic : List D) {bs : List Bool} {ir : List (Option Nat)} (hb : bs.length = l.length) (hi : ir.length = l.length) : ∃ bs' ir' c', run T (n + 2) 32 [.ref b, .ref (S.length + 1)] (WS S bs ((List.replicate r.length p).map .int) ir ic) = .ok (.bl c') (WS S bs' ((List.replicate r.length p).map .int) ir' ic) ∧ Bet bs ir false bs' ir' c' := by
  obtain ⟨bs', ir', c', z3, z4, z5, z6, z7, e, bet⟩ := cs_out n th ((List.replicate r.length p).map .int) ic r.length 0 bs ir false none none none none none (by omega) hb hi
  refine ⟨bs', ir', c', ?_, bet⟩
  rw [run_def (F := ⟨2, 8, b32, true⟩) rfl rfl]
  have z0 : ((0 : Nat) : Int) = 0 := rfl
  rw [z0] at e
  simp (dsimp := false) (implicitDefEqProofs := false) [b32, ws_a1, ws_g2, lstOf, mkL, enmIt, Ev.guard, e, -List.map_replicate, exSs, exS, evE.eq_1, evE.eq_2, evE.eq_3, evE.eq_4, evE.eq_5, evE.eq_6, evE.eq_7, evE.eq_8, evE.eq_9, evE.eq_10, evE.eq_11, evE.eq_12, evE.eq_13, evE.eq_14, evE.eq_15, evE.eq_16, evE.eq_17, evE.eq_18, evE.eq_19, evE.eq_20, evE.eq_21, evE.eq_22, evE.eq_23, evE.eq_24, evE.eq_25, evE.eq_26, evE.eq_27, evE.eq_28, evT, evL, evI, evC, evW, startF, setS, idxD, seqOf, ixN, binD, arI, setI, cmpD, intCmp, cmpI, truD, isAny, isD, isNo, pln, vw, eqD, biD, tidy_same, wipe, toR_nx, refIx, augV, valS]
  exact tidy_len (by simp [ws_len])
theorem tm (th : TH S b l r p t) (bs : List Bool) (cs : List D) (ir : List (Option Nat)) (ic : List D) {q v : Nat} (e : mthC T 0 q = some v) (e2 : ((tF b l.length r.length p).map (·.1)).contains q = false) : mthOf T (.ref b) q (WS S bs cs ir ic) = some v := (th.ws bs cs ir ic).m e e2
theorem st_loop (n : Nat) (th : TH S b l r p t) (ic : List D) : ∀ (m : Nat) (bs : List Bool) (ir : List (Option Nat)), bs.length = l.length → ir.length = l.length → l.length ≤ m + bs.count true →
    ∃ N bs' ir', whlN (fun ρ S => evT (csOf T (n + 2)) b33t0 ρ S) (fun ρ S => exSs (csOf T (n + 2)) b33l0 ρ S) N [some (.ref b), some (.ref (S.length + 1)), some (.bl true)] (WS S bs ((List.replicate r.length p).map .int) ir ic) = some (.nx [some (.ref b), some (.ref (S.length + 1)), some (.bl false)] (WS S bs' ((List.replicate r.length p).map .int) ir' ic)) ∧ ∃ c, Bet bs ir false bs' ir' c
  | m, bs, ir, hb, hi, hm => by
    have er := f_row2 n th bs hb ir ic
    obtain ⟨bs1, ir1, c', ec, bet⟩ := f_col n th ic hb hi
    have m1 := tm th bs ((List.replicate r.length p).map .int) ir ic (q := 6) (v := 31) rfl rfl
    have m2 := tm th bs ((List.replicate r.length p).map .int) ir ic (q := 7) (v := 32) rfl rfl
    cases c' with
    | false =>
      refine ⟨2, bs1, ir1, ?_, false, bet⟩
      generalize (List.replicate r.length p).map D.int = cs at er ec m1 m2
      rw [whlN_turn (S1 := WS S bs cs ir ic) (ρ2 := [some (.ref b), some (.ref (S.length + 1)), some (.bl false)]) (S2 := WS S bs1 cs ir1 ic) (by simp (dsimp := false) (implicitDefEqProofs := false) [b33t0, exSs, exS, evE.eq_1, evE.eq_2, evE.eq_3, evE.eq_4, evE.eq_5, evE.eq_6, evE.eq_7, evE.eq_8, evE.eq_9, evE.eq_10, evE.eq_11, evE.eq_12, evE.eq_13, evE.eq_14, evE.eq_15, evE.eq_16, evE.eq_17, evE.eq_18, evE.eq_19, evE.eq_20, evE.eq_21, evE.eq_22, evE.eq_23, evE.eq_24, evE.eq_25, evE.eq_26, evE.eq_27, evE.eq_28, evT, evL, evI, evC, evW, startF, setS, idxD, seqOf, ixN, binD, arI, setI, cmpD, intCmp, cmpI, truD, isAny, isD, isNo, pln, vw, eqD, biD, tidy_same, wipe, toR_nx, refIx, augV, valS]) (by simp (dsimp := false) (implicitDefEqProofs := false) [b33l0, m1, m2, er, ec, exSs, exS, evE.eq_1, evE.eq_2, evE.eq_3, evE.eq_4, evE.eq_5, evE.eq_6, evE.eq_7, evE.eq_8, evE.eq_9, evE.eq_10, evE.eq_11, evE.eq_12, evE.eq_13, evE.eq_14, evE.eq_15, evE.eq_16, evE.eq_17, evE.eq_18, evE.eq_19, evE.eq_20, evE.eq_21, evE.eq_22, evE.eq_23, evE.eq_24, evE.eq_25, evE.eq_26, evE.eq_27, evE.eq_28, evT, evL, evI, evC, evW, startF, setS, idxD, seqOf, ixN, binD, arI, setI, cmpD, intCmp, cmpI, truD, isAny, isD, isNo, pln, vw, eqD, biD, tidy_same, wipe, toR_nx, refIx, augV, valS])]
      exact whlN_end (by simp (dsimp := false) (implicitDefEqProofs := false) [b33t0, exSs, exS, evE.eq_1, evE.eq_2, evE.eq_3, evE.eq_4, evE.eq_5, evE.eq_6, evE.eq_7, evE.eq_8, evE.eq_9, evE.eq_10, evE.eq_11, evE.eq_12, evE.eq_13, evE.eq_14, evE.eq_15, evE.eq_16, evE.eq_17, evE.eq_18, evE.eq_19, evE.eq_20, evE.eq_21, evE.eq_22, evE.eq_23, evE.eq_24, evE.eq_25, evE.eq_26, evE.eq_27, evE.eq_28, evT, evL, evI, evC, evW, startF, setS, idxD, seqOf, ixN, binD, arI, setI, cmpD, intCmp, cmpI, truD, isAny, isD, isNo, pln, vw, eqD, biD, tidy_same, wipe, toR_nx, refIx, augV, valS])
    | true =>
      have hn : bs.count true < bs1.count true := by
        rcases bet.m rfl with h | h
        · simp at h
        · exact h
      match m, hm with
      | 0, hm =>
        have := List.count_le_length (a := true) (l := bs1)
        have := bet.lb
        omega
      | m + 1, hm =>
        obtain ⟨N, bs2, ir2, e, c2, bet2⟩ := st_loop n th ic m bs1 ir1 (by rw [bet.lb, hb]) (by rw [bet.li, hi]) (by omega)
        refine ⟨N + 1, bs2, ir2, ?_, true, Bet.trans bet (c'' := true) ⟨bet2.lb, bet2.li, bet2.k, bet2.n, fun _ => .inl rfl⟩⟩
        rw [← e]
        generalize (List.replicate r.length p).map D.int = cs at er ec m1 m2
        exact whlN_turn (S1 := WS S bs cs ir ic) (by simp (dsimp := false) (implicitDefEqProofs := false) [b33t0, exSs, exS, evE.eq_1, evE.eq_2, evE.eq_3, evE.eq_4, evE.eq_5, evE.eq_6, evE.eq_7, evE.eq_8, evE.eq_9, evE.eq_10, evE.eq_11, evE.eq_12, evE.eq_13, evE.eq_14, evE.eq_15, evE.eq_16, evE.eq_17, evE.eq_18, evE.eq_19, evE.eq_20, evE.eq_21, evE.eq_22, evE.eq_23, evE.eq_24, evE.eq_25, evE.eq_26, evE.eq_27, evE.eq_28, evT, evL, evI, evC, evW, startF, setS, idxD, seqOf, ixN, binD, arI, setI, cmpD, intCmp, cmpI, truD, isAny, isD, isNo, pln, vw, eqD, biD, tidy_same, wipe, toR_nx, refIx, augV, valS]) (by simp (dsimp := false) (implicitDefEqProofs := false) [b33l0, m1, m2, er, ec, exSs, exS, evE.eq_1, evE.eq_2, evE.eq_3, evE.eq_4, evE.eq_5, evE.eq_6, evE.eq_7, evE.eq_8, evE.eq_9, evE.eq_10, evE.eq_11, evE.eq_12, evE.eq_13, evE.eq_14, evE.eq_15, evE.eq_16, evE.eq_17, evE.eq_18, evE.eq_19, evE.eq_20, evE.eq_21, evE.eq_22, evE.eq_23, evE.eq_24, evE.eq_25, evE.eq_26, evE.eq_27, evE.eq_28, evT, evL, evI, evC, evW, startF, setS, idxD, seqOf, ixN, binD, arI, setI, cmpD, intCmp, cmpI, truD, isAny, isD, isNo, pln, vw, eqD, biD, tidy_same, wipe, toR_nx, refIx, augV, valS])
theorem f_settle (n : Nat) (th : TH S b l r p t) (hr : 0 < r.length) {ir : List (Option Nat)} {k : Nat} {bb : List Bool} (h : k + 1 + bb.length = l.length) (hi : ir.length = l.length) : ∃ bs' ir', run T (n + 3) 33 [.ref b, .ref (S.length + 1)] (WS S (List.replicate k false ++ true :: bb) (List.replicate r.length .non) ir (List.replicate r.length .non)) = .ok .non (WS S bs' ((List.replicate r.length p).map .int) ir' (List.replicate r.length (.int (k : Nat)))) ∧ bs'.length = l.length ∧ ir'.length = l.length ∧ ir'[k]? = ir[k]? := by
  have er := f_row1 n th ir hr (k := k) (bb := bb) h
  have hk : (List.replicate k false ++ true :: bb)[k]? = some true := by simp
  have hb : (List.replicate k false ++ true :: bb).length = l.length := by simp; omega
  generalize List.replicate k false ++ true :: bb = bs at er hb hk
  obtain ⟨bs1, ir1, c1, ec, bet1⟩ := f_col n th (List.replicate r.length (.int (k : Nat))) hb hi
  obtain ⟨N, bs2, ir2, e, c2, bet2⟩ := st_loop n th (List.replicate r.length (.int (k : Nat))) l.length bs1 ir1 (by rw [bet1.lb, hb]) (by rw [bet1.li, hi]) (by omega)
  have bet := bet1.trans (c'' := c2) ⟨bet2.lb, bet2.li, bet2.k, bet2.n, fun hc => .inr ((bet2.m hc).resolve_left (by simp))⟩
  refine ⟨bs2, ir2, ?_, by rw [bet.lb, hb], by rw [bet.li, hi], (bet.k k hk).2⟩
  have m1 := tm th bs (List.replicate r.length .non) ir (List.replicate r.length .non) (q := 6) (v := 31) rfl rfl
  have m2 := tm th bs ((List.replicate r.length p).map .int) ir (List.replicate r.length (.int (k : Nat))) (q := 7) (v := 32) rfl rfl
  generalize (List.replicate r.length p).map D.int = cs at er ec m2 e ⊢
  generalize List.replicate r.length (D.int (k : Nat)) = ic at er ec m2 e ⊢
  generalize List.replicate r.length D.non = ns at er m1 ⊢
  rw [run_def (F := ⟨2, 3, b33, true⟩) rfl rfl]
  have ew := whl_of (whlN_turn (n := N) (c := fun ρ S => evT (csOf T (n + 2)) b33t0 ρ S) (f := fun ρ S => exSs (csOf T (n + 2)) b33l0 ρ S) (ρ := [some (.ref b), some (.ref (S.length + 1)), some (.bl true)]) (S := WS S bs ns ir ns) (S1 := WS S bs ns ir ns) (ρ2 := [some (.ref b), some (.ref (S.length + 1)), some (.bl true)]) (S2 := WS S bs1 cs ir1 ic) (by simp (dsimp := false) (implicitDefEqProofs := false) [b33t0, exSs, exS, evE.eq_1, evE.eq_2, evE.eq_3, evE.eq_4, evE.eq_5, evE.eq_6, evE.eq_7, evE.eq_8, evE.eq_9, evE.eq_10, evE.eq_11, evE.eq_12, evE.eq_13, evE.eq_14, evE.eq_15, evE.eq_16, evE.eq_17, evE.eq_18, evE.eq_19, evE.eq_20, evE.eq_21, evE.eq_22, evE.eq_23, evE.eq_24, evE.eq_25, evE.eq_26, evE.eq_27, evE.eq_28, evT, evL, evI, evC, evW, startF, setS, idxD, seqOf, ixN, binD, arI, setI, cmpD, intCmp, cmpI, truD, isAny, isD, isNo, pln, vw, eqD, biD, tidy_same, wipe, toR_nx, refIx, augV, valS]) (by cases c1 <;> simp (dsimp := false) (implicitDefEqProofs := false) [b33l0, m1, m2, er, ec, exSs, exS, evE.eq_1, evE.eq_2, evE.eq_3, evE.eq_4, evE.eq_5, evE.eq_6, evE.eq_7, evE.eq_8, evE.eq_9, evE.eq_10, evE.eq_11, evE.eq_12, evE.eq_13, evE.eq_14, evE.eq_15, evE.eq_16, evE.eq_17, evE.eq_18, evE.eq_19, evE.eq_20, evE.eq_21, evE.eq_22, evE.eq_23, evE.eq_24, evE.eq_25, evE.eq_26, evE.eq_27, evE.eq_28, evT, evL, evI, evC, evW, startF, setS, idxD, seqOf, ixN, binD, arI, setI, cmpD, intCmp, cmpI, truD, isAny, isD, isNo, pln, vw, eqD, biD, tidy_same, wipe, toR_nx, refIx, augV, valS]) |>.trans e)
  simp (dsimp := false) (implicitDefEqProofs := false) [b33, ew, exSs, exS, evE.eq_1, evE.eq_2, evE.eq_3, evE.eq_4, evE.eq_5, evE.eq_6, evE.eq_7, evE.eq_8, evE.eq_9, evE.eq_10, evE.eq_11, evE.eq_12, evE.eq_13, evE.eq_14, evE.eq_15, evE.eq_16, evE.eq_17, evE.eq_18, evE.eq_19, evE.eq_20, evE.eq_21, evE.eq_22, evE.eq_23, evE.eq_24, evE.eq_25, evE.eq_26, evE.eq_27, evE.eq_28, evT, evL, evI, evC, evW, startF, setS, idxD, seqOf, ixN, binD, arI, setI, cmpD, intCmp, cmpI, truD, isAny, isD, isNo, pln, vw, eqD, biD, tidy_same, wipe, toR_nx, refIx, augV, valS]
  exact tidy_len (by simp [ws_len])
end
end Lw
end
section
set_option maxRecDepth 100000
set_option maxHeartbeats 8000000
namespace Lw
open Ev Lg
theorem att_app {S W : Store} {k q : Nat} {v : D} (h : attD T (.ref k) q S = some v) : attD T (.ref k) q (S ++ W) = some v := by
  cases hk : S[k]? with
  | none => simp [attD, hk] at h
  | some c =>
    simp only [attD, gapp hk]
    simpa only [attD, hk] using h
theorem tidy_drop {fz : Bool} {S W : Store} {d : D} (h : below S.length d = true) : Ev.tidy fz S (.ok d (S ++ W)) = .ok d S := by
  unfold Ev.tidy
  have c0 : cutOk S (S ++ W) = true := by simp [cutOk]
  simp [c0, h]
theorem rep_get' {w j : Nat} (x : D) (h : j < w) : (List.replicate w x)[j]? = some x := by simp [h]
section
variable {S : Store} {b t : Nat} {l r : List Nat} {p : Int}
theorem ta_loop2 (n : Nat) {Y : Store} {g : Gd} {m w : Nat} {y0 : Option D} (gk : gOk g Y = true) (a1 : attD T (.ref m) 16 Y = some (.ref (m + 1))) (g2 : Y[m + 1]? = some (.lst ((List.replicate w p).map .int))) {q : Nat} (hq : q < w) : ∀ (L : List Nat) (j : Nat) (y3 y4 : Option D), j + L.length = w → ∃ z3 z4, forL (.tp [3, 4]) (fun ρ S => exSs (csOf T (n + 1)) b34l0 ρ S) g (enmL (j : Nat) (ndl L)) [y0, some (.ref m), some (.int (q : Nat)), y3, y4] Y = .nx [y0, some (.ref m), some (.int (q : Nat)), z3, z4] Y
  | [], j, y3, y4, _ => ⟨y3, y4, fg_nil gk⟩
  | x :: L, j, y3, y4, h => by
    obtain ⟨z3, z4, e⟩ := ta_loop2 n gk a1 g2 hq (y0 := y0) L (j + 1) (some (.int (j : Nat))) (some (.int (x : Nat))) (by simp at h; omega)
    refine ⟨z3, z4, ?_⟩
    push_cast at e
    rw [← e]
    show forL _ _ _ (.tup [.int (j : Nat), .int (x : Nat)] :: enmL ((j : Int) + 1) (ndl L)) _ _ = _
    have hj : j < w := by simp at h; omega
    have gj := rep_get (w := w) (j := j) p hj
    have gq := rep_get (w := w) (j := q) p hq
    have l1 : ((List.replicate w p).map D.int).length = w := by simp
    generalize (List.replicate w p).map D.int = cs at g2 gj gq l1
    have hj' : (j : Int) < w := by omega
    have hq' : (q : Int) < w := by omega
    by_cases hx : 0 < x
    · exact fg_nx gk rfl (by simp (dsimp := false) (implicitDefEqProofs := false) [b34l0, hx, a1, g2, l1, hj', hq', gj, gq, exSs, exS, evE.eq_1, evE.eq_2, evE.eq_3, evE.eq_4, evE.eq_5, evE.eq_6, evE.eq_7, evE.eq_8, evE.eq_9, evE.eq_10, evE.eq_11, evE.eq_12, evE.eq_13, evE.eq_14, evE.eq_15, evE.eq_16, evE.eq_17, evE.eq_18, evE.eq_19, evE.eq_20, evE.eq_21, evE.eq_22, evE.eq_23, evE.eq_24, evE.eq_25, evE.eq_26, evE.eq_27, evE.eq_28, evT, evL, evI, evC, evW, startF, setS, idxD, seqOf, ixN, binD, arI, setI, cmpD, intCmp, cmpI, truD, isAny, isD, isNo, pln, vw, eqD, biD, tidy_same, wipe, toR_nx, refIx, augV, valS])
    · exact fg_nx gk rfl (by simp (dsimp := false) (implicitDefEqProofs := false) [b34l0, hx, exSs, exS, evE.eq_1, evE.eq_2, evE.eq_3, evE.eq_4, evE.eq_5, evE.eq_6, evE.eq_7, evE.eq_8, evE.eq_9, evE.eq_10, evE.eq_11, evE.eq_12, evE.eq_13, evE.eq_14, evE.eq_15, evE.eq_16, evE.eq_17, evE.eq_18, evE.eq_19, evE.eq_20, evE.eq_21, evE.eq_22, evE.eq_23, evE.eq_24, evE.eq_25, evE.eq_26, evE.eq_27, evE.eq_28, evT, evL, evI, evC, evW, startF, setS, idxD, seqOf, ixN, binD, arI, setI, cmpD, intCmp, cmpI, truD, isAny, isD, isNo, pln, vw, eqD, biD, tidy_same, wipe, toR_nx, refIx, augV, valS])
theorem ta_loop1 (n : Nat) {Y : Store} {g : Gd} {m w : Nat} {y0 : Option D} (gk : gOk g Y = true) (a1 : attD T (.ref m) 16 Y = some (.ref (m + 1))) (g2 : Y[m + 1]? = some (.lst ((List.replicate w p).map .int))) {x : Nat} (hx : 0 < x) (L : List Nat) : ∀ (k j : Nat) (y3 y4 : Option D), j + (k + 1 + L.length) = w → ∃ z3 z4, forL (.tp [3, 4]) (fun ρ S => exSs (csOf T (n + 1)) b34l0 ρ S) g (enmL (j : Nat) (ndl (List.replicate k 0 ++ x :: L))) [y0, some (.ref m), some .non, y3, y4] Y = .nx [y0, some (.ref m), some (.int (j + k : Nat)), z3, z4] Y
  | 0, j, y3, y4, h => by
    obtain ⟨z3, z4, e⟩ := ta_loop2 n gk a1 g2 (y0 := y0) (q := j) (by omega) L (j + 1) (some (.int (j : Nat))) (some (.int (x : Nat))) (by omega)
    refine ⟨z3, z4, ?_⟩
    push_cast at e
    rw [show j + 0 = j from rfl, ← e]
    show forL _ _ _ (.tup [.int (j : Nat), .int (x : Nat)] :: enmL ((j : Int) + 1) (ndl L)) _ _ = _
    exact fg_nx gk rfl (by simp (dsimp := false) (implicitDefEqProofs := false) [b34l0, hx, exSs, exS, evE.eq_1, evE.eq_2, evE.eq_3, evE.eq_4, evE.eq_5, evE.eq_6, evE.eq_7, evE.eq_8, evE.eq_9, evE.eq_10, evE.eq_11, evE.eq_12, evE.eq_13, evE.eq_14, evE.eq_15, evE.eq_16, evE.eq_17, evE.eq_18, evE.eq_19, evE.eq_20, evE.eq_21, evE.eq_22, evE.eq_23, evE.eq_24, evE.eq_25, evE.eq_26, evE.eq_27, evE.eq_28, evT, evL, evI, evC, evW, startF, setS, idxD, seqOf, ixN, binD, arI, setI, cmpD, intCmp, cmpI, truD, isAny, isD, isNo, pln, vw, eqD, biD, tidy_same, wipe, toR_nx, refIx, augV, valS])
  | k + 1, j, y3, y4, h => by
    obtain ⟨z3, z4, e⟩ := ta_loop1 n gk a1 g2 (y0 := y0) hx L k (j + 1) (some (.int (j : Nat))) (some (.int 0)) (by omega)
    refine ⟨z3, z4, ?_⟩
    rw [show j + (k + 1) = j + 1 + k by omega, ← e]
    show forL _ _ _ (.tup [.int (j : Nat), .int 0] :: enmL ((j : Int) + 1) (ndl (List.replicate k 0 ++ x :: L))) _ _ = forL _ _ _ (enmL ((j + 1 : Nat) : Int) _) _ _
    push_cast
    exact fg_nx gk rfl (by simp (dsimp := false) (implicitDefEqProofs := false) [b34l0, exSs, exS, evE.eq_1, evE.eq_2, evE.eq_3, evE.eq_4, evE.eq_5, evE.eq_6, evE.eq_7, evE.eq_8, evE.eq_9, evE.eq_10, evE.eq_11, evE.eq_12, evE.eq_13, evE.eq_14, evE.eq_15, evE.eq_16, evE.eq_17, evE.eq_18, evE.eq_19, evE.eq_20, evE.eq_21, evE.eq_22, evE.eq_23, evE.eq_24, evE.eq_25, evE.eq_26, evE.eq_27, evE.eq_28, evT, evL, evI, evC, evW, startF, setS, idxD, seqOf, ixN, binD, arI, setI, cmpD, intCmp, cmpI, truD, isAny, isD, isNo, pln, vw, eqD, biD, tidy_same, wipe, toR_nx, refIx, augV, valS])
theorem f_target (n : Nat) (th : TH S b l r p t) (bs : List Bool) (ir : List (Option Nat)) (ic : List D) {k x : Nat} {L : List Nat} (hx : 0 < x) (hr : rem r t = List.replicate k 0 ++ x :: L) : run T (n + 2) 34 [.ref b, .ref (S.length + 1)] (WS S bs ((List.replicate r.length p).map .int) ir ic) = .ok (.int (k : Nat)) (WS S bs ((List.replicate r.length p).map .int) ir ic) := by
  have tw := th.ws bs ((List.replicate r.length p).map .int) ir ic
  have len := rem_len r t
  rw [hr] at len
  simp only [List.length_append, List.length_replicate, List.length_cons] at len
  obtain ⟨z3, z4, e⟩ := ta_loop1 n (Y := WS S bs ((List.replicate r.length p).map .int) ir ic) (g := [(b + 2, rowC (rem r t))]) (m := S.length + 1) (w := r.length) (p := p) (y0 := some (.ref b)) (gOk_one0 tw.c) ws_a1 ws_g2 hx L k 0 none none (by omega)
  have a3 := tw.a3
  have gc : (WS S bs ((List.replicate r.length p).map .int) ir ic)[b + 2]? = some (.lst (ndl (rem r t))) := tw.c
  have z0 : ((0 : Nat) : Int) = 0 := rfl
  rw [z0, Nat.zero_add, ← hr] at e
  generalize WS S bs ((List.replicate r.length p).map .int) ir ic = Y at e a3 gc ⊢
  rw [run_def (F := ⟨2, 5, b34, true⟩) rfl rfl]
  simp (dsimp := false) (implicitDefEqProofs := false) [b34, a3, enmIt, Ev.guard, gc, e, exSs, exS, evE.eq_1, evE.eq_2, evE.eq_3, evE.eq_4, evE.eq_5, evE.eq_6, evE.eq_7, evE.eq_8, evE.eq_9, evE.eq_10, evE.eq_11, evE.eq_12, evE.eq_13, evE.eq_14, evE.eq_15, evE.eq_16, evE.eq_17, evE.eq_18, evE.eq_19, evE.eq_20, evE.eq_21, evE.eq_22, evE.eq_23, evE.eq_24, evE.eq_25, evE.eq_26, evE.eq_27, evE.eq_28, evT, evL, evI, evC, evW, startF, setS, idxD, seqOf, ixN, binD, arI, setI, cmpD, intCmp, cmpI, truD, isAny, isD, isNo, pln, vw, eqD, biD, tidy_same, wipe, toR_nx, refIx, augV, valS]
theorem f_way (n : Nat) (bs : List Bool) (cs : List D) {ir : List (Option Nat)} {k w j : Nat} (hj : j < w) (hk : k < ir.length) (hi : ir[k]? = some none) : run T (n + 1) 41 [.ref (S.length + 1), .int (j : Nat)] (WS S bs cs ir (List.replicate w (.int (k : Nat)))) = .ok (.tup [.int (k : Nat), .ref (S.length + 5)]) (WS S bs cs ir (List.replicate w (.int (k : Nat))) ++ [.lst [trip (k, j, 1)]]) := by
  rw [run_def (F := ⟨2, 5, b41, true⟩) rfl rfl]
  have len := ws_len (S := S) (bs := bs) (cs := cs) (ir := ir) (ic := List.replicate w (.int (k : Nat)))
  have a3 := ws_a3 (S := S) (bs := bs) (cs := cs) (ir := ir) (ic := List.replicate w (.int (k : Nat)))
  have a2 := ws_a2 (S := S) (bs := bs) (cs := cs) (ir := ir) (ic := List.replicate w (.int (k : Nat)))
  have g3 := ws_g3 (S := S) (bs := bs) (cs := cs) (ir := ir) (ic := List.replicate w (.int (k : Nat)))
  have g4 := ws_g4 (S := S) (bs := bs) (cs := cs) (ir := ir) (ic := List.replicate w (.int (k : Nat)))
  have gj := rep_get' (w := w) (j := j) (.int (k : Nat)) hj
  have lj : (List.replicate w (D.int (k : Nat))).length = w := by simp
  have gi : (ir.map oD)[k]? = some .non := by rw [List.getElem?_map, hi]; rfl
  have li : (ir.map oD).length = ir.length := by simp
  generalize WS S bs cs ir (List.replicate w (.int (k : Nat))) = Y at *
  generalize List.replicate w (D.int (k : Nat)) = ic at *
  generalize ir.map oD = im at *
  have b3 := fun c => att_app (W := [c]) a3
  have b2 := fun c => att_app (W := [c]) a2
  have h3 := fun c => gapp (W := [c]) g3
  have h4 := fun c => gapp (W := [c]) g4
  have gN : ∀ c : Cell, (Y ++ [c])[S.length + 5]? = some c := fun c => by rw [← len]; simp
  have sN : ∀ c d : Cell, (Y ++ [c]).set (S.length + 5) d = Y ++ [d] := fun c d => by rw [← len]; simp
  have hj' : (j : Int) < w := by omega
  have hk' : (k : Int) < ir.length := by omega
  have z : 0 < LIM := by decide
  have ew : whlN (fun ρ S => evT (csOf T n) b41t0 ρ S) (fun ρ S => exSs (csOf T n) b41l0 ρ S) 1 [some (.ref (S.length + 1)), some (.int (j : Nat)), some (.ref (S.length + 5)), some (.int (j : Nat)), none] (Y ++ [.lst []]) = some (.rt (.tup [.int (k : Nat), .ref (S.length + 5)]) (Y ++ [.lst [trip (k, j, 1)]])) := by
    have e1 : evT (csOf T n) b41t0 [some (.ref (S.length + 1)), some (.int (j : Nat)), some (.ref (S.length + 5)), some (.int (j : Nat)), none] (Y ++ [.lst []]) = .ok true (Y ++ [.lst []]) := by simp (dsimp := false) (implicitDefEqProofs := false) [b41t0, exSs, exS, evE.eq_1, evE.eq_2, evE.eq_3, evE.eq_4, evE.eq_5, evE.eq_6, evE.eq_7, evE.eq_8, evE.eq_9, evE.eq_10, evE.eq_11, evE.eq_12, evE.eq_13, evE.eq_14, evE.eq_15, evE.eq_16, evE.eq_17, evE.eq_18, evE.eq_19, evE.eq_20, evE.eq_21, evE.eq_22, evE.eq_23, evE.eq_24, evE.eq_25, evE.eq_26, evE.eq_27, evE.eq_28, evT, evL, evI, evC, evW, startF, setS, idxD, seqOf, ixN, binD, arI, setI, cmpD, intCmp, cmpI, truD, isAny, isD, isNo, pln, vw, eqD, biD, tidy_same, wipe, toR_nx, refIx, augV, valS]
    have e2 : exSs (csOf T n) b41l0 [some (.ref (S.length + 1)), some (.int (j : Nat)), some (.ref (S.length + 5)), some (.int (j : Nat)), none] (Y ++ [.lst []]) = .rt (.tup [.int (k : Nat), .ref (S.length + 5)]) (Y ++ [.lst [trip (k, j, 1)]]) := by
      simp (dsimp := false) (implicitDefEqProofs := false) [b41l0, b3, h4, lj, hj', gj, gN, bmOk, bmD, z, sN, b2, h3, li, hk', gi, trip, exSs, exS, evE.eq_1, evE.eq_2, evE.eq_3, evE.eq_4, evE.eq_5, evE.eq_6, evE.eq_7, evE.eq_8, evE.eq_9, evE.eq_10, evE.eq_11, evE.eq_12, evE.eq_13, evE.eq_14, evE.eq_15, evE.eq_16, evE.eq_17, evE.eq_18, evE.eq_19, evE.eq_20, evE.eq_21, evE.eq_22, evE.eq_23, evE.eq_24, evE.eq_25, evE.eq_26, evE.eq_27, evE.eq_28, evT, evL, evI, evC, evW, startF, setS, idxD, seqOf, ixN, binD, arI, setI, cmpD, intCmp, cmpI, truD, isAny, isD, isNo, pln, vw, eqD, biD, tidy_same, wipe, toR_nx, refIx, augV, valS]
    simp only [whlN, e1, e2]
  simp (dsimp := false) (implicitDefEqProofs := false) [b41, mkL, len, whl_of ew, exSs, exS, evE.eq_1, evE.eq_2, evE.eq_3, evE.eq_4, evE.eq_5, evE.eq_6, evE.eq_7, evE.eq_8, evE.eq_9, evE.eq_10, evE.eq_11, evE.eq_12, evE.eq_13, evE.eq_14, evE.eq_15, evE.eq_16, evE.eq_17, evE.eq_18, evE.eq_19, evE.eq_20, evE.eq_21, evE.eq_22, evE.eq_23, evE.eq_24, evE.eq_25, evE.eq_26, evE.eq_27, evE.eq_28, evT, evL, evI, evC, evW, startF, setS, idxD, seqOf, ixN, binD, arI, setI, cmpD, intCmp, cmpI, truD, isAny, isD, isNo, pln, vw, eqD, biD, tidy_same, wipe, toR_nx, refIx, augV, valS]
  unfold Ev.tidy
  have c0 : cutOk Y (Y ++ [.lst [trip (k, j, 1)]]) = true := cut_self _ _
  have c1 : below Y.length (.tup [.int (k : Nat), .ref (S.length + 5)]) = false := by rw [len]; simp [below, belowL]
  simp only [c0, c1, if_true, Bool.false_eq_true, if_false]
theorem f_amount (n : Nat) (th : TH S b l r p t) {i j m k : Nat} {x y : Nat} (hm : S[m]? = some (.lst [trip (k, j, 1)])) (hi : i < l.length) (hj : j < r.length) (hx : (rem l t).getD i 0 = x) (hy : (rem r t).getD j 0 = y) : run T (n + 1) 35 [.ref b, .int (i : Nat), .ref m, .int (j : Nat)] S = .ok (.int ((min x y : Nat) : Int)) S := by
  have a2 := th.a2
  have a3 := th.a3
  have ga : S[b + 1]? = some (.lst (ndl (rem l t))) := th.a
  have gc : S[b + 2]? = some (.lst (ndl (rem r t))) := th.c
  have gi := ndl_get (l := rem l t) (k := i) (by rw [rem_len]; exact hi)
  have gj := ndl_get (l := rem r t) (k := j) (by rw [rem_len]; exact hj)
  rw [hx] at gi
  rw [hy] at gj
  have l1 : (ndl (rem l t)).length = l.length := by rw [ndl_len, rem_len]
  have l2 : (ndl (rem r t)).length = r.length := by rw [ndl_len, rem_len]
  generalize ndl (rem l t) = L1 at *
  generalize ndl (rem r t) = L2 at *
  have hi' : (i : Int) < l.length := by omega
  have hj' : (j : Int) < r.length := by omega
  have hmA := gapp (W := [.lst [.int (x : Nat), .int (y : Nat)]]) hm
  have gS := ag0 S [.lst [.int (x : Nat), .int (y : Nat)]]
  simp only [List.getElem?_cons_zero] at gS
  rw [run_def (F := ⟨4, 8, b35, true⟩) rfl rfl]
  have e : forL (.tp [5, 6, 7]) (fun ρ S => exSs (csOf T n) b35l0 ρ S) [(m, .lst [trip (k, j, 1)])] [trip (k, j, 1)] [some (.ref b), some (.int (i : Nat)), some (.ref m), some (.int (j : Nat)), some (.ref S.length), none, none, none] (S ++ [.lst [.int (x : Nat), .int (y : Nat)]]) = .nx [some (.ref b), some (.int (i : Nat)), some (.ref m), some (.int (j : Nat)), some (.ref S.length), some (.int (k : Nat)), some (.int (j : Nat)), some (.int 1)] (S ++ [.lst [.int (x : Nat), .int (y : Nat)]]) := by
    have gk := gOk_one hm (.lst [.int (x : Nat), .int (y : Nat)])
    rw [fg_nx gk (ρ1 := [some (.ref b), some (.int (i : Nat)), some (.ref m), some (.int (j : Nat)), some (.ref S.length), some (.int (k : Nat)), some (.int (j : Nat)), some (.int 1)]) rfl (ρ2 := [some (.ref b), some (.int (i : Nat)), some (.ref m), some (.int (j : Nat)), some (.ref S.length), some (.int (k : Nat)), some (.int (j : Nat)), some (.int 1)]) (S2 := S ++ [.lst [.int (x : Nat), .int (y : Nat)]]) (by simp (dsimp := false) (implicitDefEqProofs := false) [b35l0, exSs, exS, evE.eq_1, evE.eq_2, evE.eq_3, evE.eq_4, evE.eq_5, evE.eq_6, evE.eq_7, evE.eq_8, evE.eq_9, evE.eq_10, evE.eq_11, evE.eq_12, evE.eq_13, evE.eq_14, evE.eq_15, evE.eq_16, evE.eq_17, evE.eq_18, evE.eq_19, evE.eq_20, evE.eq_21, evE.eq_22, evE.eq_23, evE.eq_24, evE.eq_25, evE.eq_26, evE.eq_27, evE.eq_28, evT, evL, evI, evC, evW, startF, setS, idxD, seqOf, ixN, binD, arI, setI, cmpD, intCmp, cmpI, truD, isAny, isD, isNo, pln, vw, eqD, biD, tidy_same, wipe, toR_nx, refIx, augV, valS])]
    exact fg_nil gk
  have mi : minI (x : Int) [(y : Int)] = ((min x y : Nat) : Int) := by
    simp only [minI]
    split <;> omega
  simp (dsimp := false) (implicitDefEqProofs := false) [b35, a2, a3, ga, gc, l1, l2, hi', hj', gi, gj, mkL, seqIt, Ev.guard, hmA, e, gS, lstOf, allInt, mi, exSs, exS, evE.eq_1, evE.eq_2, evE.eq_3, evE.eq_4, evE.eq_5, evE.eq_6, evE.eq_7, evE.eq_8, evE.eq_9, evE.eq_10, evE.eq_11, evE.eq_12, evE.eq_13, evE.eq_14, evE.eq_15, evE.eq_16, evE.eq_17, evE.eq_18, evE.eq_19, evE.eq_20, evE.eq_21, evE.eq_22, evE.eq_23, evE.eq_24, evE.eq_25, evE.eq_26, evE.eq_27, evE.eq_28, evT, evL, evI, evC, evW, startF, setS, idxD, seqOf, ixN, binD, arI, setI, cmpD, intCmp, cmpI, truD, isAny, isD, isNo, pln, vw, eqD, biD, tidy_same, wipe, toR_nx, refIx, augV, valS]
  exact tidy_drop rfl
end
end Lw
end
section
set_option maxRecDepth 100000
set_option maxHeartbeats 8000000
namespace Lg
theorem first_pos : ∀ L : List Nat, 0 < L.sum → ∃ k x L', L = List.replicate k 0 ++ x :: L' ∧ 0 < x
  | [], h => by simp at h
  | 0 :: L, h => by
    obtain ⟨k, x, L', e, hx⟩ := first_pos L (by simpa using h)
    exact ⟨k + 1, x, L', by rw [e]; rfl, hx⟩
  | (x + 1) :: L, _ => ⟨0, x + 1, L, rfl, by omega⟩
theorem rem_sum {l : List Nat} {t : Nat} : (rem l t).sum = l.sum - t := by
  have h : ∀ n, ((List.range n).map fun k => pre l (k + 1) - max (pre l k) t).sum = pre l n - t := by
    intro n
    induction n with
    | zero => simp [pre_zero]
    | succ n ih =>
      rw [List.range_succ, List.map_append, List.sum_append_nat, ih, List.map_singleton, List.sum_singleton]
      have := pre_step l n
      omega
  unfold rem
  rw [h, pre_ge (Nat.le_refl _)]
theorem rem_split {l : List Nat} {t i x : Nat} {L : List Nat} (h : rem l t = List.replicate i 0 ++ x :: L) (hx : 0 < x) : i < l.length ∧ pre l i ≤ t ∧ t < pre l (i + 1) ∧ (rem l t).getD i 0 = x := by
  have len := rem_len l t
  rw [h] at len
  simp only [List.length_append, List.length_replicate, List.length_cons] at len
  have hz : ∀ k, k ≤ i → pre l k ≤ t := by
    intro k
    induction k with
    | zero => intro _; simp [pre_zero]
    | succ k ih =>
      intro hk
      have h1 := ih (by omega)
      have h2 := rem_get (l := l) (t := t) (k := k) (by omega)
      rw [h] at h2
      have h3 : (List.replicate i 0 ++ x :: L).getD k 0 = 0 := by
        rw [List.getD_eq_getElem?_getD, List.getElem?_append_left (by simp; omega)]
        simp [show k < i by omega]
      omega
  have hg : (rem l t).getD i 0 = x := by
    rw [h]
    simp
  have h2 := rem_get (l := l) (t := t) (k := i) (by omega)
  have := hz i (Nat.le_refl _)
  exact ⟨by omega, this, by omega, hg⟩
end Lg
namespace Lw
open Ev Lg
theorem ev_new {C : Cs} {own : List Nat} {tg : Tg} {it : Iter} {e : Ex} {ρ : Fr} {S : Store} {l : List D} {g : Gd} (v : D → D)
    (hw : evW C it ρ S = .ok (l, g) S) (hg : ∀ c, gOk g (S ++ [c]) = true)
    (h : ∀ d ∈ l, ∀ x, ∃ ρ1, setT tg d (wipe ρ own) (S ++ [x]) = some ρ1 ∧ evE C e ρ1 (S ++ [x]) = .ok (v d) (S ++ [x]))
    (hl : l.length ≤ LIM) : evE C (.lc true own tg it .no e) ρ S = .ok (.ref S.length) (S ++ [.lst (l.map v)]) := by
  rw [evE.eq_29, hw, th_ok]
  have := lcL_pure (fc := fun ρ S => evC C .no ρ S) (fe := fun ρ S => evE C e ρ S) (X := S) (fun _ => true) v hg l [] (fun d hd x => by
    obtain ⟨ρ1, h1, h2⟩ := h d hd x
    exact ⟨ρ1, h1, by simp [evC], fun _ => h2⟩) (by simpa using hl)
  rw [this]
  simp only [Rs.nox, th_ok, List.nil_append, flt_true]
  have g := ag0 S [.lst (l.map v)]
  unfold lcE
  simp only [g, List.getElem?_cons_zero, if_true]
def nn (w : Nat) : List D := List.replicate w .non
theorem nn_map {α : Type} (L : List α) : L.map (fun _ => D.non) = nn L.length := by unfold nn; exact List.map_const' ..
theorem nn_oD (w : Nat) : (List.replicate w none).map oD = nn w := by simp [nn, oD]
theorem f_winit (n : Nat) {S : Store} {bs : List Bool} {w : Nat} (hb : bs.length ≤ 4) (hw : w ≤ 4) : makD T (run T (n + 1)) true 1 [.ref S.length, .int (w : Nat)] (S ++ [.lst (bs.map zD)]) = .ok (.ref (S.length + 1)) (WS S bs (nn w) (List.replicate bs.length none) (nn w)) := by
  have er : run T (n + 1) 40 [.ref (S.length + 1), .ref S.length, .int (w : Nat)] (S ++ [.lst (bs.map zD), .ins 1 []]) = .ok .non (WS S bs (nn w) (List.replicate bs.length none) (nn w)) := by
    rw [run_def (F := ⟨3, 4, b40, true⟩) rfl rfl]
    have lim : (w : Int) ≤ LIM ∧ -(LIM : Int) ≤ w := by unfold LIM; omega
    have lim2 := lim_le (n := w) (by omega)
    have lim3 := lim_le (n := bs.length) (by omega)
    have wl : (upTo 0 w).length = w := by simp [upTo0]
    have bl : (bs.map zD).length = bs.length := by simp
    generalize hbm : bs.map zD = bm at bl ⊢
    have ex (b0 : List (Nat × D)) : evE (csOf T n) (.lc true [3] (.nm 3) (.rng (.cons (.var 2) .nil)) .no b40e2) [some (.ref (S.length + 1)), some (.ref S.length), some (.int (w : Nat)), none] (S ++ [.lst bm, .ins 1 b0]) = .ok (.ref (S.length + 2)) (S ++ [.lst bm, .ins 1 b0] ++ [.lst (nn w)]) := by
      have := ev_new (C := csOf T n) (own := [3]) (tg := .nm 3) (it := .rng (.cons (.var 2) .nil)) (e := b40e2) (ρ := [some (.ref (S.length + 1)), some (.ref S.length), some (.int (w : Nat)), none]) (S := S ++ [.lst bm, .ins 1 b0]) (l := upTo 0 w) (g := []) (fun _ => .non) (by simp (dsimp := false) (implicitDefEqProofs := false) [rngIt, lim, exSs, exS, evE.eq_1, evE.eq_2, evE.eq_3, evE.eq_4, evE.eq_5, evE.eq_6, evE.eq_7, evE.eq_8, evE.eq_9, evE.eq_10, evE.eq_11, evE.eq_12, evE.eq_13, evE.eq_14, evE.eq_15, evE.eq_16, evE.eq_17, evE.eq_18, evE.eq_19, evE.eq_20, evE.eq_21, evE.eq_22, evE.eq_23, evE.eq_24, evE.eq_25, evE.eq_26, evE.eq_27, evE.eq_28, evT, evL, evI, evC, evW, startF, setS, idxD, seqOf, ixN, binD, arI, setI, cmpD, intCmp, cmpI, truD, isAny, isD, isNo, pln, vw, eqD, biD, tidy_same, wipe, toR_nx, refIx, augV, valS]) (fun c => gOk_nil _) (fun d hd x => ⟨_, rfl, by simp (dsimp := false) (implicitDefEqProofs := false) [b40e2, exSs, exS, evE.eq_1, evE.eq_2, evE.eq_3, evE.eq_4, evE.eq_5, evE.eq_6, evE.eq_7, evE.eq_8, evE.eq_9, evE.eq_10, evE.eq_11, evE.eq_12, evE.eq_13, evE.eq_14, evE.eq_15, evE.eq_16, evE.eq_17, evE.eq_18, evE.eq_19, evE.eq_20, evE.eq_21, evE.eq_22, evE.eq_23, evE.eq_24, evE.eq_25, evE.eq_26, evE.eq_27, evE.eq_28, evT, evL, evI, evC, evW, startF, setS, idxD, seqOf, ixN, binD, arI, setI, cmpD, intCmp, cmpI, truD, isAny, isD, isNo, pln, vw, eqD, biD, tidy_same, wipe, toR_nx, refIx, augV, valS]⟩) (by rw [wl]; exact lim2)
      rw [nn_map, wl] at this
      rw [this]
      simp
    have ey (b0 : List (Nat × D)) : evE (csOf T n) (.lc true [3] (.nm 3) (.seq (.var 1)) .no b40e1) [some (.ref (S.length + 1)), some (.ref S.length), some (.int (w : Nat)), none] (S ++ [.lst bm, .ins 1 b0, .lst (nn w)]) = .ok (.ref (S.length + 3)) (S ++ [.lst bm, .ins 1 b0, .lst (nn w)] ++ [.lst (nn bs.length)]) := by
      have g0 := ag0 S [.lst bm, .ins 1 b0, .lst (nn w)]
      simp only [List.getElem?_cons_zero] at g0
      have := ev_new (C := csOf T n) (own := [3]) (tg := .nm 3) (it := .seq (.var 1)) (e := b40e1) (ρ := [some (.ref (S.length + 1)), some (.ref S.length), some (.int (w : Nat)), none]) (S := S ++ [.lst bm, .ins 1 b0, .lst (nn w)]) (l := bm) (g := [(S.length, .lst bm)]) (fun _ => .non) (by simp (dsimp := false) (implicitDefEqProofs := false) [seqIt, Ev.guard, g0, exSs, exS, evE.eq_1, evE.eq_2, evE.eq_3, evE.eq_4, evE.eq_5, evE.eq_6, evE.eq_7, evE.eq_8, evE.eq_9, evE.eq_10, evE.eq_11, evE.eq_12, evE.eq_13, evE.eq_14, evE.eq_15, evE.eq_16, evE.eq_17, evE.eq_18, evE.eq_19, evE.eq_20, evE.eq_21, evE.eq_22, evE.eq_23, evE.eq_24, evE.eq_25, evE.eq_26, evE.eq_27, evE.eq_28, evT, evL, evI, evC, evW, startF, setS, idxD, seqOf, ixN, binD, arI, setI, cmpD, intCmp, cmpI, truD, isAny, isD, isNo, pln, vw, eqD, biD, tidy_same, wipe, toR_nx, refIx, augV, valS]) (fun c => gOk_one g0 c) (fun d hd x => ⟨_, rfl, by simp (dsimp := false) (implicitDefEqProofs := false) [b40e1, exSs, exS, evE.eq_1, evE.eq_2, evE.eq_3, evE.eq_4, evE.eq_5, evE.eq_6, evE.eq_7, evE.eq_8, evE.eq_9, evE.eq_10, evE.eq_11, evE.eq_12, evE.eq_13, evE.eq_14, evE.eq_15, evE.eq_16, evE.eq_17, evE.eq_18, evE.eq_19, evE.eq_20, evE.eq_21, evE.eq_22, evE.eq_23, evE.eq_24, evE.eq_25, evE.eq_26, evE.eq_27, evE.eq_28, evT, evL, evI, evC, evW, startF, setS, idxD, seqOf, ixN, binD, arI, setI, cmpD, intCmp, cmpI, truD, isAny, isD, isNo, pln, vw, eqD, biD, tidy_same, wipe, toR_nx, refIx, augV, valS]⟩) (by rw [bl]; exact lim3)
      rw [nn_map, bl] at this
      rw [this]
      simp
    have ez (b0 : List (Nat × D)) : evE (csOf T n) (.lc true [3] (.nm 3) (.rng (.cons (.var 2) .nil)) .no b40e0) [some (.ref (S.length + 1)), some (.ref S.length), some (.int (w : Nat)), none] (S ++ [.lst bm, .ins 1 b0, .lst (nn w), .lst (nn bs.length)]) = .ok (.ref (S.length + 4)) (S ++ [.lst bm, .ins 1 b0, .lst (nn w), .lst (nn bs.length)] ++ [.lst (nn w)]) := by
      have := ev_new (C := csOf T n) (own := [3]) (tg := .nm 3) (it := .rng (.cons (.var 2) .nil)) (e := b40e0) (ρ := [some (.ref (S.length + 1)), some (.ref S.length), some (.int (w : Nat)), none]) (S := S ++ [.lst bm, .ins 1 b0, .lst (nn w), .lst (nn bs.length)]) (l := upTo 0 w) (g := []) (fun _ => .non) (by simp (dsimp := false) (implicitDefEqProofs := false) [rngIt, lim, exSs, exS, evE.eq_1, evE.eq_2, evE.eq_3, evE.eq_4, evE.eq_5, evE.eq_6, evE.eq_7, evE.eq_8, evE.eq_9, evE.eq_10, evE.eq_11, evE.eq_12, evE.eq_13, evE.eq_14, evE.eq_15, evE.eq_16, evE.eq_17, evE.eq_18, evE.eq_19, evE.eq_20, evE.eq_21, evE.eq_22, evE.eq_23, evE.eq_24, evE.eq_25, evE.eq_26, evE.eq_27, evE.eq_28, evT, evL, evI, evC, evW, startF, setS, idxD, seqOf, ixN, binD, arI, setI, cmpD, intCmp, cmpI, truD, isAny, isD, isNo, pln, vw, eqD, biD, tidy_same, wipe, toR_nx, refIx, augV, valS]) (fun c => gOk_nil _) (fun d hd x => ⟨_, rfl, by simp (dsimp := false) (implicitDefEqProofs := false) [b40e0, exSs, exS, evE.eq_1, evE.eq_2, evE.eq_3, evE.eq_4, evE.eq_5, evE.eq_6, evE.eq_7, evE.eq_8, evE.eq_9, evE.eq_10, evE.eq_11, evE.eq_12, evE.eq_13, evE.eq_14, evE.eq_15, evE.eq_16, evE.eq_17, evE.eq_18, evE.eq_19, evE.eq_20, evE.eq_21, evE.eq_22, evE.eq_23, evE.eq_24, evE.eq_25, evE.eq_26, evE.eq_27, evE.eq_28, evT, evL, evI, evC, evW, startF, setS, idxD, seqOf, ixN, binD, arI, setI, cmpD, intCmp, cmpI, truD, isAny, isD, isNo, pln, vw, eqD, biD, tidy_same, wipe, toR_nx, refIx, augV, valS]⟩) (by rw [wl]; exact lim2)
      rw [nn_map, wl] at this
      rw [this]
      simp
    have G1 (W : Store) (a : Cell) (f : List (Nat × D)) : (S ++ a :: .ins 1 f :: W)[S.length + 1]? = some (.ins 1 f) := by rw [ag]; rfl
    have S1 (W : Store) (a c : Cell) (f : List (Nat × D)) : (S ++ a :: .ins 1 f :: W).set (S.length + 1) c = S ++ a :: c :: W := by rw [as]; rfl
    have fl : fldsOf T 1 = [15, 16, 17, 18] := rfl
    simp (dsimp := false) (implicitDefEqProofs := false) [b40, G1, S1, fl, putN, ex, ey, ez, exSs, exS, evE.eq_1, evE.eq_2, evE.eq_3, evE.eq_4, evE.eq_5, evE.eq_6, evE.eq_7, evE.eq_8, evE.eq_9, evE.eq_10, evE.eq_11, evE.eq_12, evE.eq_13, evE.eq_14, evE.eq_15, evE.eq_16, evE.eq_17, evE.eq_18, evE.eq_19, evE.eq_20, evE.eq_21, evE.eq_22, evE.eq_23, evE.eq_24, evE.eq_25, evE.eq_26, evE.eq_27, evE.eq_28, evT, evL, evI, evC, evW, startF, setS, idxD, seqOf, ixN, binD, arI, setI, cmpD, intCmp, cmpI, truD, isAny, isD, isNo, pln, vw, eqD, biD, tidy_same, wipe, toR_nx, refIx, augV, valS]
    have c0 : cutOk (S ++ [.lst bm, .ins 1 []]) (S ++ [.lst bm, .ins 1 (wF S.length), .lst (nn w), .lst (nn bs.length), .lst (nn w)]) = false := by
      have tk : (S ++ [Cell.lst bm, .ins 1 (wF S.length), .lst (nn w), .lst (nn bs.length), .lst (nn w)]).take (S ++ [Cell.lst bm, .ins 1 []]).length = S ++ [Cell.lst bm, .ins 1 (wF S.length)] := by
        rw [List.take_append, List.take_of_length_le (by simp)]
        simp
      unfold cutOk
      rw [tk]
      simp [belowC, wF, belowL, below]
    have ew : WS S bs (nn w) (List.replicate bs.length none) (nn w) = S ++ [.lst bm, .ins 1 (wF S.length), .lst (nn w), .lst (nn bs.length), .lst (nn w)] := by
      unfold WS
      rw [nn_oD, hbm]
    rw [ew]
    unfold wF at c0 ⊢
    unfold Ev.tidy
    simp only [c0, Bool.false_eq_true, if_false]
  unfold makD
  have l1 : (S ++ [Cell.lst (bs.map zD)]).length = S.length + 1 := by simp
  have hc : T.cls[1]? = some ⟨[15, 16, 17, 18], some 40, [(19, 41)]⟩ := rfl
  have ap : S ++ [Cell.lst (bs.map zD)] ++ [.ins 1 []] = S ++ [Cell.lst (bs.map zD), .ins 1 []] := by simp
  simp only [hc, l1, ap, er, if_true]
/-- a Transport in the store -/
def TR (b : Nat) (l r : List Nat) (p : Int) (t1 t2 t3 : Nat) : Store := .ins 0 (tF b l.length r.length p) :: rowC (rem l t1) :: rowC (rem r t2) :: TB (b + 3) (tab l r t3)
theorem TR_len {b : Nat} {l r : List Nat} {p : Int} {t1 t2 t3 : Nat} : (TR b l r p t1 t2 t3).length = l.length + 4 := by simp [TR, TB_len, tab_len]
theorem TR_th (S : Store) (l r : List Nat) (p : Int) (t : Nat) : TH (S ++ TR S.length l r p t t t) S.length l r p t := by
  refine ⟨ag0 _ _, ag _ _ 1, ag _ _ 2, ?_, fun i hi => ?_⟩
  · rw [ag]
    simp [TR, TB, tab_len]
  · rw [show S.length + 4 + i = S.length + (i + 1 + 1 + 1 + 1) by omega, ag]
    unfold TR TB
    simp only [List.getElem?_cons_succ]
    exact tab_row hi
theorem TR_s1 (S V : Store) (b : Nat) (l r : List Nat) (p : Int) (t1 t2 t3 t' : Nat) : (S ++ TR b l r p t1 t2 t3 ++ V).set (S.length + 1) (rowC (rem l t')) = S ++ TR b l r p t' t2 t3 ++ V := by
  rw [List.append_assoc, as]
  simp [TR]
theorem TR_s2 (S V : Store) (b : Nat) (l r : List Nat) (p : Int) (t1 t2 t3 t' : Nat) : (S ++ TR b l r p t1 t2 t3 ++ V).set (S.length + 2) (rowC (rem r t')) = S ++ TR b l r p t1 t' t3 ++ V := by
  rw [List.append_assoc, as]
  simp [TR]
theorem TR_s3 (S V : Store) (b : Nat) {l r : List Nat} (p : Int) {t1 t2 t i j : Nat} (h : At l r t i j) : (S ++ TR b l r p t1 t2 t ++ V).set (S.length + 4 + i) (rowC (((tab l r t).getD i []).set j (ov l r t i j + (nxt l r i j - t)))) = S ++ TR b l r p t1 t2 (nxt l r i j) ++ V := by
  rw [List.append_assoc, show S.length + 4 + i = S.length + (i + 1 + 1 + 1 + 1) by omega, as]
  have hi : i < (List.map rowC (tab l r t)).length := by simp [tab_len, h.hi]
  unfold TR TB
  rw [tab_len, tab_len, h.next_t]
  simp only [List.cons_append, List.set_cons_succ, List.map_set]
  rw [List.set_append_left _ _ hi, List.append_assoc]
  rfl
theorem TR_below {b : Nat} {l r : List Nat} {p : Int} {t1 t2 t3 : Nat} : ∀ c ∈ TR b l r p t1 t2 t3, belowC (b + (l.length + 4)) c = true := by
  intro c hc
  unfold TR TB at hc
  simp only [List.mem_cons] at hc
  rcases hc with rfl | rfl | rfl | rfl | hc
  · have : belowL (b + (l.length + 4)) ((PR l.length r.length p).map tupI) = true := belowL_tups _ _
    simp [belowC, tF, belowL, below, this]
  · exact ndl_below _ _
  · exact ndl_below _ _
  · refine belowL_of fun d hd => ?_
    obtain ⟨i, hi, rfl⟩ := List.mem_map.mp hd
    have := List.mem_range.mp hi
    rw [tab_len] at this
    simp only [below, decide_eq_true_eq]
    omega
  · obtain ⟨row, _, rfl⟩ := List.mem_map.mp hc
    exact ndl_below _ _
end Lw
end
section
set_option maxRecDepth 100000
set_option maxHeartbeats 8000000
namespace Lw
open Ev Lg
section
variable {S V : Store} {l r : List Nat} {p : Int} {t1 t2 t3 : Nat}
theorem TRg0 : (S ++ TR S.length l r p t1 t2 t3 ++ V)[S.length]? = some (.ins 0 (tF S.length l.length r.length p)) := by rw [List.append_assoc, ag0]; rfl
theorem TRg1 : (S ++ TR S.length l r p t1 t2 t3 ++ V)[S.length + 1]? = some (.lst (ndl (rem l t1))) := by rw [List.append_assoc, ag]; rfl
theorem TRg2 : (S ++ TR S.length l r p t1 t2 t3 ++ V)[S.length + 2]? = some (.lst (ndl (rem r t2))) := by rw [List.append_assoc, ag]; rfl
theorem TRa2 : attD T (.ref S.length) 2 (S ++ TR S.length l r p t1 t2 t3 ++ V) = some (.ref (S.length + 1)) := att_of TRg0 rfl rfl
theorem TRa3 : attD T (.ref S.length) 3 (S ++ TR S.length l r p t1 t2 t3 ++ V) = some (.ref (S.length + 2)) := att_of TRg0 rfl rfl
end
def supD : D → D
  | .int k => if 0 < k then .int 0 else .non
  | _ => .non
theorem sup_map (L : List Nat) : (ndl L).map supD = (L.map fun q => decide (0 < q)).map zD := by
  unfold ndl
  rw [List.map_map, List.map_map]
  refine List.map_congr_left fun q _ => ?_
  by_cases h : 0 < q
  · simp [supD, zD, h]
  · have : q = 0 := by omega
    subst this
    simp [supD, zD]
theorem sup_split {L L' : List Nat} {i x : Nat} (hx : 0 < x) (h : L = List.replicate i 0 ++ x :: L') : (L.map fun q => decide (0 < q)) = List.replicate i false ++ true :: L'.map fun q => decide (0 < q) := by
  rw [h, List.map_append, List.map_replicate, List.map_cons]
  simp [hx]
theorem f_send (n : Nat) {S : Store} (hS : ∀ c ∈ S, belowC 0 c = true) {l r : List Nat} (hm : Mg l r) (p : Int) (hb : l.sum < 2 ^ 100) {t : Nat} (ht : t < l.sum) : ∃ t', t < t' ∧ t' ≤ l.sum ∧ run T (n + 4) 36 [.ref S.length] (S ++ TR S.length l r p t t t) = .ok .non (S ++ TR S.length l r p t' t' t') := by
  obtain ⟨i, x, L, el, hx⟩ := first_pos (rem l t) (by rw [rem_sum]; omega)
  obtain ⟨j, y, L2, er, hy⟩ := first_pos (rem r t) (by rw [rem_sum, ← hm.sm]; omega)
  obtain ⟨hi, i1, i2, ix⟩ := rem_split el hx
  obtain ⟨hj, j1, j2, jx⟩ := rem_split er hy
  have at_ : At l r t i j := ⟨hi, hj, i1, by omega, j1, by omega⟩
  have am := at_.amount
  have n3 := TR_s3 S (p := p) (t1 := t) (t2 := t) (b := S.length) (h := at_)
  have nl := at_.next_l
  have nr := at_.next_r
  have hnx : nxt l r i j = min (pre l (i + 1)) (pre r (j + 1)) := rfl
  have p1 := pre_le l (i + 1)
  rw [ix, jx] at am
  rw [ix] at nl
  rw [jx] at nr
  generalize nxt l r i j = t' at am n3 nl nr hnx
  refine ⟨t', by omega, by omega, ?_⟩
  have hl4 := hm.ll
  have hr4 := hm.rl
  have s1l : (S ++ TR S.length l r p t t t).length = S.length + (l.length + 4) := by rw [List.length_append, TR_len]
  have th := TR_th S l r p t
  have bl : ((rem l t).map fun q => decide (0 < q)).length = l.length := by rw [List.length_map, rem_len]
  have sp := sup_split hx el
  have sm := sup_map (rem l t)
  have ga : (S ++ TR S.length l r p t t t)[S.length + 1]? = some (.lst (ndl (rem l t))) := th.a
  have gc : (S ++ TR S.length l r p t t t)[S.length + 2]? = some (.lst (ndl (rem r t))) := th.c
  have ll : (ndl (rem l t)).length = l.length := by rw [ndl_len, rem_len]
  have lr : (ndl (rem r t)).length = r.length := by rw [ndl_len, rem_len]
  have a2 := th.a2
  have e1 := ev_new (C := csOf T (n + 3)) (own := [9]) (tg := .nm 9) (it := .seq (.att (.var 0) 2)) (e := b36e0) (ρ := [some (.ref S.length), none, none, none, none, none, none, none, none, none]) (S := S ++ TR S.length l r p t t t) (l := ndl (rem l t)) (g := [(S.length + 1, .lst (ndl (rem l t)))]) supD (by simp (dsimp := false) (implicitDefEqProofs := false) [seqIt, Ev.guard, a2, ga, exSs, exS, evE.eq_1, evE.eq_2, evE.eq_3, evE.eq_4, evE.eq_5, evE.eq_6, evE.eq_7, evE.eq_8, evE.eq_9, evE.eq_10, evE.eq_11, evE.eq_12, evE.eq_13, evE.eq_14, evE.eq_15, evE.eq_16, evE.eq_17, evE.eq_18, evE.eq_19, evE.eq_20, evE.eq_21, evE.eq_22, evE.eq_23, evE.eq_24, evE.eq_25, evE.eq_26, evE.eq_27, evE.eq_28, evT, evL, evI, evC, evW, startF, setS, idxD, seqOf, ixN, binD, arI, setI, cmpD, intCmp, cmpI, truD, isAny, isD, isNo, pln, vw, eqD, biD, tidy_same, wipe, toR_nx, refIx, augV, valS]) (fun c => gOk_one ga c) (fun d hd x => ⟨_, rfl, by
      obtain ⟨q, _, rfl⟩ := List.mem_map.mp hd
      by_cases h : 0 < q
      · simp (dsimp := false) (implicitDefEqProofs := false) [b36e0, h, supD, exSs, exS, evE.eq_1, evE.eq_2, evE.eq_3, evE.eq_4, evE.eq_5, evE.eq_6, evE.eq_7, evE.eq_8, evE.eq_9, evE.eq_10, evE.eq_11, evE.eq_12, evE.eq_13, evE.eq_14, evE.eq_15, evE.eq_16, evE.eq_17, evE.eq_18, evE.eq_19, evE.eq_20, evE.eq_21, evE.eq_22, evE.eq_23, evE.eq_24, evE.eq_25, evE.eq_26, evE.eq_27, evE.eq_28, evT, evL, evI, evC, evW, startF, setS, idxD, seqOf, ixN, binD, arI, setI, cmpD, intCmp, cmpI, truD, isAny, isD, isNo, pln, vw, eqD, biD, tidy_same, wipe, toR_nx, refIx, augV, valS]
      · have : q = 0 := by omega
        subst this
        simp (dsimp := false) (implicitDefEqProofs := false) [b36e0, supD, exSs, exS, evE.eq_1, evE.eq_2, evE.eq_3, evE.eq_4, evE.eq_5, evE.eq_6, evE.eq_7, evE.eq_8, evE.eq_9, evE.eq_10, evE.eq_11, evE.eq_12, evE.eq_13, evE.eq_14, evE.eq_15, evE.eq_16, evE.eq_17, evE.eq_18, evE.eq_19, evE.eq_20, evE.eq_21, evE.eq_22, evE.eq_23, evE.eq_24, evE.eq_25, evE.eq_26, evE.eq_27, evE.eq_28, evT, evL, evI, evC, evW, startF, setS, idxD, seqOf, ixN, binD, arI, setI, cmpD, intCmp, cmpI, truD, isAny, isD, isNo, pln, vw, eqD, biD, tidy_same, wipe, toR_nx, refIx, augV, valS]⟩) (by rw [ll]; exact lim_le (by omega))
  rw [sm, sp] at e1
  rw [sp] at bl
  have hk : i + 1 + (L.map fun q => decide (0 < q)).length = l.length := by
    rw [← bl]
    simp only [List.length_append, List.length_replicate, List.length_cons]
    omega
  have a3 := att_app (W := [.lst ((List.replicate i false ++ true :: L.map fun q => decide (0 < q)).map zD)]) th.a3
  have gc1 := gapp (W := [.lst ((List.replicate i false ++ true :: L.map fun q => decide (0 < q)).map zD)]) gc
  have ei := f_winit (n + 1) (S := S ++ TR S.length l r p t t t) (bs := List.replicate i false ++ true :: L.map fun q => decide (0 < q)) (w := r.length) (by omega) hr4
  rw [bl] at ei
  obtain ⟨bs', ir', es, hb', hi', hik⟩ := f_settle n th (by omega) (ir := List.replicate l.length none) hk (by simp)
  rw [show List.replicate r.length D.non = nn r.length from rfl] at es
  have hik' : ir'[i]? = some none := by rw [hik]; simp [hi]
  have ms := tm th (List.replicate i false ++ true :: L.map fun q => decide (0 < q)) (nn r.length) (List.replicate l.length none) (nn r.length) (q := 8) (v := 33) rfl rfl
  have mt := tm th bs' ((List.replicate r.length p).map .int) ir' (List.replicate r.length (.int (i : Nat))) (q := 9) (v := 34) rfl rfl
  have et := f_target (n + 1) th bs' ir' (List.replicate r.length (.int (i : Nat))) hy er
  have mw := ws_m (S := S ++ TR S.length l r p t t t) (bs := bs') (cs := (List.replicate r.length p).map .int) (ir := ir') (ic := List.replicate r.length (.int (i : Nat)))
  have ew := f_way (S := S ++ TR S.length l r p t t t) (n + 2) bs' ((List.replicate r.length p).map .int) (ir := ir') (k := i) (w := r.length) hj (by omega) hik'
  obtain ⟨V, hV⟩ : ∃ V, WS (S ++ TR S.length l r p t t t) bs' ((List.replicate r.length p).map .int) ir' (List.replicate r.length (.int (i : Nat))) ++ [.lst [trip (i, j, 1)]] = S ++ TR S.length l r p t t t ++ V := by
    refine ⟨[.lst (bs'.map zD), .ins 1 (wF (S ++ TR S.length l r p t t t).length), .lst ((List.replicate r.length p).map .int), .lst (ir'.map oD), .lst (List.replicate r.length (.int (i : Nat)))] ++ [.lst [trip (i, j, 1)]], ?_⟩
    unfold WS
    rw [List.append_assoc]
  have gz : (S ++ TR S.length l r p t t t ++ V)[(S ++ TR S.length l r p t t t).length + 5]? = some (.lst [trip (i, j, 1)]) := by
    rw [← hV, ← ws_len, ag0]
    rfl
  rw [hV] at ew
  have thV := th.app (W := V)
  have ma := thV.m (q := 10) (v := 35) rfl rfl
  have ea := f_amount (n + 2) thV gz hi hj ix jx
  rw [am] at ea
  have hi2 : (i : Int) < l.length := by omega
  have hj2 : (j : Int) < r.length := by omega
  have gk := gOk_one0 gz
  have a5 := thV.a5
  have go := thV.o
  have gw : (S ++ TR S.length l r p t t t ++ V)[S.length + 4 + i]? = some (.lst (ndl ((tab l r t).getD i []))) := thV.w i hi
  obtain ⟨q1, q2⟩ := tab_get (t := t) hi hj
  have gj := ndl_get (l := (tab l r t).getD i []) (k := j) (by rw [q2]; exact hj)
  rw [q1] at gj
  have lrow : (ndl ((tab l r t).getD i [])).length = r.length := by rw [ndl_len, q2]
  have sj := ndl_set ((tab l r t).getD i []) j (ov l r t i j + (t' - t))
  have n3 := n3 V
  unfold rowC at n3
  rw [← sj] at n3
  generalize ndl ((tab l r t).getD i []) = row at gw gj lrow n3
  obtain ⟨a, ha⟩ : ∃ a, a = t' - t := ⟨_, rfl⟩
  rw [← ha] at n3 ea nl nr am
  have sm2 : ((ov l r t i j : Nat) : Int) + (a : Int) = ((ov l r t i j + a : Nat) : Int) := by push_cast; rfl
  generalize ov l r t i j + a = oa at n3 sm2
  generalize ov l r t i j = o at gj sm2
  have ab : a < Wd := wd_n (by omega)
  have one : 1 < Wd := wd_n (by decide)
  have z1 : (S ++ TR S.length l r p t t t' ++ V)[(S ++ TR S.length l r p t t t).length + 5]? = some (.lst [trip (i, j, 1)]) := by
    rw [← n3, List.getElem?_set_ne (by omega)]
    exact gz
  have gk1 := gOk_one0 z1
  have el : forL (.tp [6, 7, 8]) (fun ρ S => exSs (csOf T (n + 3)) b36l0 ρ S) [((S ++ TR S.length l r p t t t).length + 5, .lst [trip (i, j, 1)])] [trip (i, j, 1)] [some (.ref S.length), some (.ref ((S ++ TR S.length l r p t t t).length + 1)), some (.int (j : Nat)), some (.int (a : Nat)), some (.int (i : Nat)), some (.ref ((S ++ TR S.length l r p t t t).length + 5)), none, none, none, none] (S ++ TR S.length l r p t t t ++ V) = .nx [some (.ref S.length), some (.ref ((S ++ TR S.length l r p t t t).length + 1)), some (.int (j : Nat)), some (.int (a : Nat)), some (.int (i : Nat)), some (.ref ((S ++ TR S.length l r p t t t).length + 5)), some (.int (i : Nat)), some (.int (j : Nat)), some (.int 1), none] (S ++ TR S.length l r p t t t' ++ V) := by
    generalize S ++ TR S.length l r p t t t ++ V = Z at *
    generalize (S ++ TR S.length l r p t t t).length = m at *
    rw [fg_nx gk (ρ1 := [some (.ref S.length), some (.ref (m + 1)), some (.int (j : Nat)), some (.int (a : Nat)), some (.int (i : Nat)), some (.ref (m + 5)), some (.int (i : Nat)), some (.int (j : Nat)), some (.int 1), none]) (ρ2 := [some (.ref S.length), some (.ref (m + 1)), some (.int (j : Nat)), some (.int (a : Nat)), some (.int (i : Nat)), some (.ref (m + 5)), some (.int (i : Nat)), some (.int (j : Nat)), some (.int 1), none]) (S2 := S ++ TR S.length l r p t t t' ++ V) rfl (by simp (dsimp := false) (implicitDefEqProofs := false) [b36l0, a5, go, refs_len, hi2, refs_get hi, gw, lrow, hj2, gj, ab, one, sm2, n3, -List.append_assoc, exSs, exS, evE.eq_1, evE.eq_2, evE.eq_3, evE.eq_4, evE.eq_5, evE.eq_6, evE.eq_7, evE.eq_8, evE.eq_9, evE.eq_10, evE.eq_11, evE.eq_12, evE.eq_13, evE.eq_14, evE.eq_15, evE.eq_16, evE.eq_17, evE.eq_18, evE.eq_19, evE.eq_20, evE.eq_21, evE.eq_22, evE.eq_23, evE.eq_24, evE.eq_25, evE.eq_26, evE.eq_27, evE.eq_28, evT, evL, evI, evC, evW, startF, setS, idxD, seqOf, ixN, binD, arI, setI, cmpD, intCmp, cmpI, truD, isAny, isD, isNo, pln, vw, eqD, biD, tidy_same, wipe, toR_nx, refIx, augV, valS])]
    exact fg_nil gk1
  have gi1 := ndl_get (l := rem l t) (k := i) (by rw [rem_len]; exact hi)
  have gj1 := ndl_get (l := rem r t) (k := j) (by rw [rem_len]; exact hj)
  rw [ix] at gi1
  rw [jx] at gj1
  have dx : (x : Int) - (a : Int) = ((x - a : Nat) : Int) := by omega
  have dy : (y : Int) - (a : Int) = ((y - a : Nat) : Int) := by omega
  have sx := ndl_set (rem l t) i (x - a)
  have sy := ndl_set (rem r t) j (y - a)
  rw [← nl] at sx
  rw [← nr] at sy
  have A1 := TRa2 (S := S) (V := V) (l := l) (r := r) (p := p) (t1 := t) (t2 := t) (t3 := t')
  have G1 := TRg1 (S := S) (V := V) (l := l) (r := r) (p := p) (t1 := t) (t2 := t) (t3 := t')
  have P1 := TR_s1 S V S.length l r p t t t' t'
  have A2 := TRa3 (S := S) (V := V) (l := l) (r := r) (p := p) (t1 := t') (t2 := t) (t3 := t')
  have G2 := TRg2 (S := S) (V := V) (l := l) (r := r) (p := p) (t1 := t') (t2 := t) (t3 := t')
  have P2 := TR_s2 S V S.length l r p t' t t' t'
  unfold rowC at P1 P2
  rw [← sx] at P1
  rw [← sy] at P2
  generalize ndl (rem l t) = L1 at *
  generalize ndl (rem r t) = L3 at *
  generalize x - a = xa at *
  generalize y - a = ya at *
  have fin : Ev.tidy true (S ++ TR S.length l r p t t t) (.ok .non (S ++ TR S.length l r p t' t' t' ++ V)) = .ok .non (S ++ TR S.length l r p t' t' t') := by
    have tk : (S ++ TR S.length l r p t' t' t' ++ V).take (S ++ TR S.length l r p t t t).length = S ++ TR S.length l r p t' t' t' := by
      rw [List.take_append_of_le_length (by simp [TR_len]), List.take_of_length_le (by simp [TR_len])]
    have c0 : cutOk (S ++ TR S.length l r p t t t) (S ++ TR S.length l r p t' t' t' ++ V) = true := by
      unfold cutOk
      rw [tk, s1l, Bool.or_eq_true]
      refine .inr (List.all_eq_true.mpr fun c hc => ?_)
      rcases List.mem_append.mp hc with hc | hc
      · exact belC_mono (hS c hc)
      · exact TR_below c hc
    unfold Ev.tidy
    simp only [c0, if_true, below, tk]
  rw [run_def (F := ⟨1, 10, b36, true⟩) rfl rfl]
  generalize S ++ TR S.length l r p t t t ++ V = Z at *
  generalize S ++ TR S.length l r p t t t' ++ V = Z1 at *
  generalize S ++ TR S.length l r p t' t t' ++ V = Z2 at *
  generalize S ++ TR S.length l r p t' t' t' ++ V = Z3 at *
  generalize S ++ TR S.length l r p t t t = Y at *
  generalize (List.replicate i false ++ true :: L.map fun q => decide (0 < q)) = bs at *
  generalize hbm : bs.map zD = bm at *
  generalize WS Y bs (nn r.length) (List.replicate l.length none) (nn r.length) = W1 at *
  generalize hW2 : WS Y bs' ((List.replicate r.length p).map .int) ir' (List.replicate r.length (.int (i : Nat))) = W2 at *
  simp (dsimp := false) (implicitDefEqProofs := false) [b36, e1, a3, gc1, lr, csOf_fn1, ei, ms, es, mt, et, mw, ew, ma, ea, setT, setAll, seqIt, Ev.guard, gz, el, A1, G1, ll, hi2, gi1, dx, P1, A2, G2, hj2, gj1, dy, P2, fin, exSs, exS, evE.eq_1, evE.eq_2, evE.eq_3, evE.eq_4, evE.eq_5, evE.eq_6, evE.eq_7, evE.eq_8, evE.eq_9, evE.eq_10, evE.eq_11, evE.eq_12, evE.eq_13, evE.eq_14, evE.eq_15, evE.eq_16, evE.eq_17, evE.eq_18, evE.eq_19, evE.eq_20, evE.eq_21, evE.eq_22, evE.eq_23, evE.eq_24, evE.eq_25, evE.eq_26, evE.eq_27, evE.eq_28, evT, evL, evI, evC, evW, startF, setS, idxD, seqOf, ixN, binD, arI, setI, cmpD, intCmp, cmpI, truD, isAny, isD, isNo, pln, vw, eqD, biD, tidy_same, wipe, toR_nx, refIx, augV, valS]
end Lw
end
section
set_option maxRecDepth 100000
set_option maxHeartbeats 8000000
namespace Lw
open Ev Lg
theorem so_loop (n : Nat) {S : Store} (hS : ∀ c ∈ S, belowC 0 c = true) {l r : List Nat} (hm : Mg l r) (p : Int) (hb : l.sum < 2 ^ 100) : ∀ (m t : Nat), l.sum ≤ m + t → t ≤ l.sum → ∃ N, whlN (fun ρ S => evT (csOf T (n + 4)) b37t0 ρ S) (fun ρ S => exSs (csOf T (n + 4)) b37l0 ρ S) N [some (.ref S.length)] (S ++ TR S.length l r p t t t) = some (.nx [some (.ref S.length)] (S ++ TR S.length l r p l.sum l.sum l.sum))
  | m, t, hmt, ht => by
    have th := TR_th S l r p t
    have a3 := th.a3
    have gc : (S ++ TR S.length l r p t t t)[S.length + 2]? = some (.lst (ndl (rem r t))) := th.c
    have ai := allInt_ndl (rem r t)
    have sm := sumI_nd (rem r t)
    rw [rem_sum, ← hm.sm] at sm
    by_cases h : t < l.sum
    · obtain ⟨t', h1, h2, e⟩ := f_send n hS hm p hb h
      match m, hmt with
      | 0, hmt => omega
      | m + 1, hmt =>
        obtain ⟨N, eN⟩ := so_loop n hS hm p hb m t' (by omega) h2
        refine ⟨N + 1, ?_⟩
        rw [← eN]
        have ms := th.m (q := 11) (v := 36) rfl rfl
        generalize S ++ TR S.length l r p t t t = Y at *
        have pos : (0 : Int) < ((l.sum - t : Nat) : Int) := by omega
        generalize ((l.sum - t : Nat) : Int) = q at *
        refine whlN_turn (S1 := Y) ?_ ?_
        · simp (dsimp := false) (implicitDefEqProofs := false) [b37t0, a3, lstOf, gc, ai, sm, pos, -List.map_map, exSs, exS, evE.eq_1, evE.eq_2, evE.eq_3, evE.eq_4, evE.eq_5, evE.eq_6, evE.eq_7, evE.eq_8, evE.eq_9, evE.eq_10, evE.eq_11, evE.eq_12, evE.eq_13, evE.eq_14, evE.eq_15, evE.eq_16, evE.eq_17, evE.eq_18, evE.eq_19, evE.eq_20, evE.eq_21, evE.eq_22, evE.eq_23, evE.eq_24, evE.eq_25, evE.eq_26, evE.eq_27, evE.eq_28, evT, evL, evI, evC, evW, startF, setS, idxD, seqOf, ixN, binD, arI, setI, cmpD, intCmp, cmpI, truD, isAny, isD, isNo, pln, vw, eqD, biD, tidy_same, wipe, toR_nx, refIx, augV, valS]
        · simp (dsimp := false) (implicitDefEqProofs := false) [b37l0, ms, e, exSs, exS, evE.eq_1, evE.eq_2, evE.eq_3, evE.eq_4, evE.eq_5, evE.eq_6, evE.eq_7, evE.eq_8, evE.eq_9, evE.eq_10, evE.eq_11, evE.eq_12, evE.eq_13, evE.eq_14, evE.eq_15, evE.eq_16, evE.eq_17, evE.eq_18, evE.eq_19, evE.eq_20, evE.eq_21, evE.eq_22, evE.eq_23, evE.eq_24, evE.eq_25, evE.eq_26, evE.eq_27, evE.eq_28, evT, evL, evI, evC, evW, startF, setS, idxD, seqOf, ixN, binD, arI, setI, cmpD, intCmp, cmpI, truD, isAny, isD, isNo, pln, vw, eqD, biD, tidy_same, wipe, toR_nx, refIx, augV, valS]
    · have ht : t = l.sum := by omega
      subst ht
      refine ⟨1, whlN_end ?_⟩
      rw [Nat.sub_self] at sm
      generalize S ++ TR S.length l r p l.sum l.sum l.sum = Y at *
      simp (dsimp := false) (implicitDefEqProofs := false) [b37t0, a3, lstOf, gc, ai, sm, -List.map_map, exSs, exS, evE.eq_1, evE.eq_2, evE.eq_3, evE.eq_4, evE.eq_5, evE.eq_6, evE.eq_7, evE.eq_8, evE.eq_9, evE.eq_10, evE.eq_11, evE.eq_12, evE.eq_13, evE.eq_14, evE.eq_15, evE.eq_16, evE.eq_17, evE.eq_18, evE.eq_19, evE.eq_20, evE.eq_21, evE.eq_22, evE.eq_23, evE.eq_24, evE.eq_25, evE.eq_26, evE.eq_27, evE.eq_28, evT, evL, evI, evC, evW, startF, setS, idxD, seqOf, ixN, binD, arI, setI, cmpD, intCmp, cmpI, truD, isAny, isD, isNo, pln, vw, eqD, biD, tidy_same, wipe, toR_nx, refIx, augV, valS]
theorem f_solve (n : Nat) {S : Store} (hS : ∀ c ∈ S, belowC 0 c = true) {l r : List Nat} (hm : Mg l r) (p : Int) (hb : l.sum < 2 ^ 100) : run T (n + 5) 37 [.ref S.length] (S ++ TR S.length l r p 0 0 0) = .ok .non (S ++ TR S.length l r p l.sum l.sum l.sum) := by
  obtain ⟨N, e⟩ := so_loop n hS hm p hb l.sum 0 (by omega) (by omega)
  rw [run_def (F := ⟨1, 1, b37, true⟩) rfl rfl]
  simp (dsimp := false) (implicitDefEqProofs := false) [b37, whl_of e, -List.append_assoc, exSs, exS, evE.eq_1, evE.eq_2, evE.eq_3, evE.eq_4, evE.eq_5, evE.eq_6, evE.eq_7, evE.eq_8, evE.eq_9, evE.eq_10, evE.eq_11, evE.eq_12, evE.eq_13, evE.eq_14, evE.eq_15, evE.eq_16, evE.eq_17, evE.eq_18, evE.eq_19, evE.eq_20, evE.eq_21, evE.eq_22, evE.eq_23, evE.eq_24, evE.eq_25, evE.eq_26, evE.eq_27, evE.eq_28, evT, evL, evI, evC, evW, startF, setS, idxD, seqOf, ixN, binD, arI, setI, cmpD, intCmp, cmpI, truD, isAny, isD, isNo, pln, vw, eqD, biD, tidy_same, wipe, toR_nx, refIx, augV, valS]
  exact tidy_len (by simp [TR_len])
/-- the new Transport -/
theorem f_tinit (n : Nat) {S : Store} {l r : List Nat} (hm : Mg l r) (h0 : l ≠ []) (p : Int) : makD T (run T (n + 1)) true 0 [tn l, tn r, prD l.length r.length p] S = .ok (.ref S.length) (S ++ TR S.length l r p 0 0 0) := by
  have hl4 := hm.ll
  have hr4 := hm.rl
  have er : run T (n + 1) 30 [.ref S.length, tn l, tn r, prD l.length r.length p] (S ++ [.ins 0 []]) = .ok .non (S ++ TR S.length l r p 0 0 0) := by
    rw [run_def (F := ⟨4, 5, b30, true⟩) rfl rfl]
    have fl : fldsOf T 0 = [2, 3, 4, 5] := rfl
    have G1 (W : Store) (f : List (Nat × D)) : (S ++ .ins 0 f :: W)[S.length]? = some (.ins 0 f) := by rw [ag0]; rfl
    have S1 (W : Store) (c : Cell) (f : List (Nat × D)) : (S ++ .ins 0 f :: W).set S.length c = S ++ c :: W := by rw [as0]; rfl
    have ex (f : List (Nat × D)) : evE (csOf T n) (.lc false [4] (.nm 4) (.seq (.var 1)) .no b30e1) [some (.ref S.length), some (tn l), some (tn r), some (prD l.length r.length p), none] (S ++ [.ins 0 f, .lst (ndl l), .lst (ndl r)]) = .ok (.ref (S.length + 3)) (S ++ .ins 0 f :: .lst (ndl l) :: .lst (ndl r) :: TB (S.length + 3) (tab l r 0)) := by
      have ea := ev_rows (C := csOf T n) (own := [4]) (tg := .nm 4) (it := .seq (.var 1)) (e := b30e1) (ρ := [some (.ref S.length), some (tn l), some (tn r), some (prD l.length r.length p), none]) (S := S ++ [.ins 0 f, .lst (ndl l), .lst (ndl r)]) (L := ndl l) (.lst (List.replicate r.length (.int 0)))
        (by intro h; exact h0 (by simpa [ndl] using h)) (by rw [ndl_len]; omega) (by simp (dsimp := false) (implicitDefEqProofs := false) [seqIt, Ev.guard, exSs, exS, evE.eq_1, evE.eq_2, evE.eq_3, evE.eq_4, evE.eq_5, evE.eq_6, evE.eq_7, evE.eq_8, evE.eq_9, evE.eq_10, evE.eq_11, evE.eq_12, evE.eq_13, evE.eq_14, evE.eq_15, evE.eq_16, evE.eq_17, evE.eq_18, evE.eq_19, evE.eq_20, evE.eq_21, evE.eq_22, evE.eq_23, evE.eq_24, evE.eq_25, evE.eq_26, evE.eq_27, evE.eq_28, evT, evL, evI, evC, evW, startF, setS, idxD, seqOf, ixN, binD, arI, setI, cmpD, intCmp, cmpI, truD, isAny, isD, isNo, pln, vw, eqD, biD, tidy_same, wipe, toR_nx, refIx, augV, valS]) (fun d hd S' => ⟨_, rfl, by
          have ez := ev_zero (C := csOf T n) (own := [4]) (i := 4) (it := .seq (.var 2)) (e := b30e0) (ρ := [some (.ref S.length), some (tn l), some (tn r), some (prD l.length r.length p), some d]) (S := S') (L := ndl r) (.int 0) (by rw [ndl_len]; omega) (by simp (dsimp := false) (implicitDefEqProofs := false) [seqIt, Ev.guard, exSs, exS, evE.eq_1, evE.eq_2, evE.eq_3, evE.eq_4, evE.eq_5, evE.eq_6, evE.eq_7, evE.eq_8, evE.eq_9, evE.eq_10, evE.eq_11, evE.eq_12, evE.eq_13, evE.eq_14, evE.eq_15, evE.eq_16, evE.eq_17, evE.eq_18, evE.eq_19, evE.eq_20, evE.eq_21, evE.eq_22, evE.eq_23, evE.eq_24, evE.eq_25, evE.eq_26, evE.eq_27, evE.eq_28, evT, evL, evI, evC, evW, startF, setS, idxD, seqOf, ixN, binD, arI, setI, cmpD, intCmp, cmpI, truD, isAny, isD, isNo, pln, vw, eqD, biD, tidy_same, wipe, toR_nx, refIx, augV, valS]) (fun d hd S'' => by simp (dsimp := false) (implicitDefEqProofs := false) [b30e0, exSs, exS, evE.eq_1, evE.eq_2, evE.eq_3, evE.eq_4, evE.eq_5, evE.eq_6, evE.eq_7, evE.eq_8, evE.eq_9, evE.eq_10, evE.eq_11, evE.eq_12, evE.eq_13, evE.eq_14, evE.eq_15, evE.eq_16, evE.eq_17, evE.eq_18, evE.eq_19, evE.eq_20, evE.eq_21, evE.eq_22, evE.eq_23, evE.eq_24, evE.eq_25, evE.eq_26, evE.eq_27, evE.eq_28, evT, evL, evI, evC, evW, startF, setS, idxD, seqOf, ixN, binD, arI, setI, cmpD, intCmp, cmpI, truD, isAny, isD, isNo, pln, vw, eqD, biD, tidy_same, wipe, toR_nx, refIx, augV, valS])
          rw [ndl_len] at ez
          unfold b30e1
          exact ez⟩)
      rw [ndl_len, ← TB_zero] at ea
      rw [ea]
      simp
    simp (dsimp := false) (implicitDefEqProofs := false) [b30, lstOf, mkL, G1, S1, fl, putN, ex, exSs, exS, evE.eq_1, evE.eq_2, evE.eq_3, evE.eq_4, evE.eq_5, evE.eq_6, evE.eq_7, evE.eq_8, evE.eq_9, evE.eq_10, evE.eq_11, evE.eq_12, evE.eq_13, evE.eq_14, evE.eq_15, evE.eq_16, evE.eq_17, evE.eq_18, evE.eq_19, evE.eq_20, evE.eq_21, evE.eq_22, evE.eq_23, evE.eq_24, evE.eq_25, evE.eq_26, evE.eq_27, evE.eq_28, evT, evL, evI, evC, evW, startF, setS, idxD, seqOf, ixN, binD, arI, setI, cmpD, intCmp, cmpI, truD, isAny, isD, isNo, pln, vw, eqD, biD, tidy_same, wipe, toR_nx, refIx, augV, valS]
    have c0 : cutOk (S ++ [.ins 0 []]) (S ++ .ins 0 (tF S.length l.length r.length p) :: .lst (ndl l) :: .lst (ndl r) :: TB (S.length + 3) (tab l r 0)) = false := by
      have tk : (S ++ Cell.ins 0 (tF S.length l.length r.length p) :: .lst (ndl l) :: .lst (ndl r) :: TB (S.length + 3) (tab l r 0)).take (S ++ [Cell.ins 0 []]).length = S ++ [Cell.ins 0 (tF S.length l.length r.length p)] := by
        rw [List.take_append, List.take_of_length_le (by simp)]
        simp
      unfold cutOk
      rw [tk]
      simp [belowC, tF, belowL, below]
    have et : TR S.length l r p 0 0 0 = .ins 0 (tF S.length l.length r.length p) :: .lst (ndl l) :: .lst (ndl r) :: TB (S.length + 3) (tab l r 0) := by
      unfold TR rowC
      rw [rem_zero, rem_zero]
    rw [et]
    unfold tF at c0 ⊢
    unfold Ev.tidy
    simp only [c0, Bool.false_eq_true, if_false]
  unfold makD
  have hc : T.cls[0]? = some ⟨[2, 3, 4, 5], some 30, [(6, 31), (7, 32), (8, 33), (9, 34), (10, 35), (11, 36), (12, 37), (13, 38), (14, 39)]⟩ := rfl
  simp only [hc, er, if_true]
theorem f_least (n : Nat) {S : Store} (hS : ∀ c ∈ S, belowC 0 c = true) {l r : List Nat} (hm : Mg l r) (h0 : l ≠ []) (p : Int) (hb : l.sum < 2 ^ 100) : run T (n + 6) 9 [tn l, tn r, prD l.length r.length p] S = .ok (.ref S.length) (S ++ TR S.length l r p l.sum l.sum l.sum) := by
  have e1 := f_tinit (n + 3) (S := S) hm h0 p
  have e2 := f_solve n hS hm p hb
  have m1 := (TR_th S l r p 0).m (q := 12) (v := 37) rfl rfl
  have g := (TR_th S l r p l.sum).i
  rw [run_def (F := ⟨3, 4, b9, true⟩) rfl rfl]
  simp (dsimp := false) (implicitDefEqProofs := false) [b9, csOf_fn1, e1, m1, e2, exSs, exS, evE.eq_1, evE.eq_2, evE.eq_3, evE.eq_4, evE.eq_5, evE.eq_6, evE.eq_7, evE.eq_8, evE.eq_9, evE.eq_10, evE.eq_11, evE.eq_12, evE.eq_13, evE.eq_14, evE.eq_15, evE.eq_16, evE.eq_17, evE.eq_18, evE.eq_19, evE.eq_20, evE.eq_21, evE.eq_22, evE.eq_23, evE.eq_24, evE.eq_25, evE.eq_26, evE.eq_27, evE.eq_28, evT, evL, evI, evC, evW, startF, setS, idxD, seqOf, ixN, binD, arI, setI, cmpD, intCmp, cmpI, truD, isAny, isD, isNo, pln, vw, eqD, biD, tidy_same, wipe, toR_nx, refIx, augV, valS]
  unfold Ev.tidy
  have c0 : cutOk S (S ++ TR S.length l r p l.sum l.sum l.sum) = true := by simp [cutOk]
  have nb : below S.length (.ref S.length) = false := by simp [below]
  simp only [c0, if_true, nb, g, Bool.false_eq_true, if_false]
def rowsOf (S : Store) : D → List D
  | .tup [_, .ref k] => match S[k]? with
    | some (.lst l) => enmL 0 l
    | _ => []
  | _ => []
def mul2 (p : Int) (_ : D) : D → D
  | .tup [_, .int a] => .int (p * a)
  | _ => .non
theorem enm_mul (p : Int) (d : D) : ∀ (i : Int) (L : List Nat), (enmL i (ndl L)).map (mul2 p d) = (L.map fun m => p * ((m : Nat) : Int)).map .int
  | _, [] => rfl
  | i, a :: L => by
    show mul2 p d (.tup [.int i, .int (a : Nat)]) :: (enmL (i + 1) (ndl L)).map (mul2 p d) = _
    rw [enm_mul p d (i + 1) L]
    rfl
theorem enm_mem {d : D} : ∀ {L : List D} {i : Nat}, d ∈ enmL (i : Nat) L → ∃ k x, L[k]? = some x ∧ d = .tup [.int (i + k : Nat), x]
  | [], i, h => by simp [enmL] at h
  | x :: L, i, h => by
    rw [enmL] at h
    rcases List.mem_cons.mp h with rfl | h
    · exact ⟨0, x, rfl, rfl⟩
    · have h' : d ∈ enmL ((i + 1 : Nat) : Int) L := by push_cast; exact h
      obtain ⟨k, y, h1, h2⟩ := enm_mem h'
      exact ⟨k + 1, y, h1, by rw [h2, show i + 1 + k = i + (k + 1) by omega]⟩
theorem enm_len : ∀ (L : List D) (i : Int), (enmL i L).length = L.length
  | [], _ => rfl
  | x :: L, i => by rw [enmL, List.length_cons, enm_len L (i + 1), List.length_cons]
end Lw
end
section
set_option maxRecDepth 100000
set_option maxHeartbeats 8000000
namespace Lw
open Ev Lg
theorem sumI_app : ∀ a b : List Int, sumI (a ++ b) = sumI a + sumI b
  | [], b => by simp [sumI]
  | x :: a, b => by
    rw [List.cons_append]
    simp only [sumI, sumI_app a b]
    omega
theorem sum_all (p : Int) : ∀ t : List (List Nat), sumI (t.flatMap fun row => row.map fun m => p * ((m : Nat) : Int)) = p * (((t.map List.sum).sum : Nat) : Int)
  | [] => by simp [sumI]
  | row :: t => by
    rw [List.flatMap_cons, sumI_app, sum_mul, sum_all p t, List.map_cons, List.sum_cons]
    push_cast
    rw [Int.mul_add]
theorem sum_bound {α : Type} (f : α → Nat) (k : Nat) : ∀ L : List α, (∀ d ∈ L, f d ≤ k) → (L.map f).sum ≤ k * L.length
  | [], _ => by simp
  | a :: L, h => by
    have h1 := h a List.mem_cons_self
    have h2 := sum_bound f k L fun d hd => h d (List.mem_cons_of_mem _ hd)
    rw [List.map_cons, List.sum_cons, List.length_cons, Nat.mul_succ]
    omega
theorem flat_rows {Y : Store} {b : Nat} {t : List (List Nat)} (p : Int) (hw : ∀ i, i < t.length → Y[b + i]? = some (rowC (t.getD i []))) : ∀ (k i : Nat), i + k = t.length → (enmL (i : Nat) (refs (b + i) k)).flatMap (fun d => (rowsOf Y d).map (mul2 p d)) = ((t.drop i).flatMap fun row => row.map fun m => p * ((m : Nat) : Int)).map .int
  | 0, i, h => by
    rw [List.drop_eq_nil_of_le (by omega)]
    rfl
  | k + 1, i, h => by
    have ih := flat_rows p hw k (i + 1) (by omega)
    have hi : i < t.length := by omega
    have ee : enmL (i : Nat) (refs (b + i) (k + 1)) = .tup [.int (i : Nat), .ref (b + i)] :: enmL ((i + 1 : Nat) : Int) (refs (b + (i + 1)) k) := by
      rw [refs_cons, enmL]
      push_cast
      rfl
    have hr : rowsOf Y (.tup [.int (i : Nat), .ref (b + i)]) = enmL 0 (ndl (t.getD i [])) := by
      simp only [rowsOf, hw i hi]
    rw [ee, List.flatMap_cons, ih, hr, enm_mul, List.drop_eq_getElem_cons hi, List.flatMap_cons, List.map_append]
    simp [hi]
theorem f_tcost (n : Nat) {Y : Store} {b : Nat} {l r : List Nat} {p : Int} (hm : Mg l r) (th : TH Y b l r p l.sum) (hb : l.sum < 2 ^ 100) (hp : p.natAbs < 2 ^ 100) : run T (n + 1) 38 [.ref b] Y = .ok (.int (p * (l.sum : Nat))) Y := by
  have hl4 := hm.ll
  have hr4 := hm.rl
  have fl : (full l r).length = l.length := tab_len l r _
  have hw : ∀ i, i < (full l r).length → Y[b + 4 + i]? = some (rowC ((full l r).getD i [])) := fun i hi => th.w i (by omega)
  have ef := flat_rows p hw l.length 0 (by omega)
  have z0 : ((0 : Nat) : Int) = 0 := rfl
  rw [z0, Nat.add_zero, List.drop_zero] at ef
  have a5 := th.a5
  have go := th.o
  have mem : ∀ d ∈ enmL 0 (refs (b + 4) l.length), ∃ k, k < l.length ∧ d = .tup [.int (k : Nat), .ref (b + 4 + k)] := by
    intro d hd
    obtain ⟨k, x, h1, h2⟩ := enm_mem (i := 0) hd
    have hk : k < l.length := by
      have := (List.getElem?_eq_some_iff.mp h1).1
      rw [refs_len] at this
      exact this
    rw [refs_get hk] at h1
    obtain rfl := Option.some.inj h1
    exact ⟨k, hk, by rw [h2, Nat.zero_add]⟩
  have ec := lc2_map (C := csOf T n) (own := [1, 2, 3, 4]) (tg := .tp [1, 2]) (tg2 := .tp [3, 4]) (it := .enm (.att (.var 0) 5)) (it2 := .enm (.var 2)) (e := b38e0) (ρ := [some (.ref b), none, none, none, none]) (S := Y) (l := enmL 0 (refs (b + 4) l.length)) (g := [(b + 3, .lst (refs (b + 4) l.length))]) (rowsOf Y) (mul2 p)
    (by simp (dsimp := false) (implicitDefEqProofs := false) [enmIt, Ev.guard, a5, go, exSs, exS, evE.eq_1, evE.eq_2, evE.eq_3, evE.eq_4, evE.eq_5, evE.eq_6, evE.eq_7, evE.eq_8, evE.eq_9, evE.eq_10, evE.eq_11, evE.eq_12, evE.eq_13, evE.eq_14, evE.eq_15, evE.eq_16, evE.eq_17, evE.eq_18, evE.eq_19, evE.eq_20, evE.eq_21, evE.eq_22, evE.eq_23, evE.eq_24, evE.eq_25, evE.eq_26, evE.eq_27, evE.eq_28, evT, evL, evI, evC, evW, startF, setS, idxD, seqOf, ixN, binD, arI, setI, cmpD, intCmp, cmpI, truD, isAny, isD, isNo, pln, vw, eqD, biD, tidy_same, wipe, toR_nx, refIx, augV, valS]) (fun c => gOk_one go c) (fun d hd c => by
      obtain ⟨k, hk, rfl⟩ := mem d hd
      have gw : Y[b + 4 + k]? = some (.lst (ndl ((full l r).getD k []))) := th.w k hk
      have gw1 := gapp (W := [c]) gw
      have hr : rowsOf Y (.tup [.int (k : Nat), .ref (b + 4 + k)]) = enmL 0 (ndl ((full l r).getD k [])) := by
        simp only [rowsOf, gw]
      have hmem : (full l r).getD k [] ∈ full l r := by
        rw [List.getD_eq_getElem?_getD, List.getElem?_eq_getElem (by omega), Option.getD_some]
        exact List.getElem_mem _
      have rl := full_row_len _ hmem
      have rs := row_sum hm.sm hk
      have lk : l.getD k 0 ≤ l.sum := by
        rw [List.getD_eq_getElem?_getD, List.getElem?_eq_getElem hk, Option.getD_some]
        exact mem_le_sum (List.getElem_mem _)
      refine ⟨_, [(b + 4 + k, .lst (ndl ((full l r).getD k [])))], rfl, ?_, fun c => gOk_one gw c, fun x hx c2 => ?_⟩
      · rw [hr]
        simp (dsimp := false) (implicitDefEqProofs := false) [enmIt, Ev.guard, gw1, exSs, exS, evE.eq_1, evE.eq_2, evE.eq_3, evE.eq_4, evE.eq_5, evE.eq_6, evE.eq_7, evE.eq_8, evE.eq_9, evE.eq_10, evE.eq_11, evE.eq_12, evE.eq_13, evE.eq_14, evE.eq_15, evE.eq_16, evE.eq_17, evE.eq_18, evE.eq_19, evE.eq_20, evE.eq_21, evE.eq_22, evE.eq_23, evE.eq_24, evE.eq_25, evE.eq_26, evE.eq_27, evE.eq_28, evT, evL, evI, evC, evW, startF, setS, idxD, seqOf, ixN, binD, arI, setI, cmpD, intCmp, cmpI, truD, isAny, isD, isNo, pln, vw, eqD, biD, tidy_same, wipe, toR_nx, refIx, augV, valS]
      · rw [hr] at hx
        obtain ⟨j, y, h1, rfl⟩ := enm_mem (i := 0) hx
        generalize (full l r).getD k [] = row at rl rs h1
        have hj : j < row.length := by
          have := (List.getElem?_eq_some_iff.mp h1).1
          rw [ndl_len] at this
          exact this
        rw [ndl_get hj] at h1
        obtain rfl := Option.some.inj h1
        have mb : row.getD j 0 ≤ row.sum := by
          rw [List.getD_eq_getElem?_getD, List.getElem?_eq_getElem hj, Option.getD_some]
          exact mem_le_sum (List.getElem_mem _)
        generalize row.getD j 0 = v at mb
        have w1 : p.natAbs < Wd := wd_n (by omega)
        have w2 : v < Wd := wd_n (by omega)
        have a4 := att_app (W := [c2]) th.a4
        have pg := pr_get (w := r.length) p hk
        have pl : (PR l.length r.length p).length = l.length := by simp [PR]
        have pj := rep_get (w := r.length) (j := j) p (by omega)
        have hk' : (k : Int) < l.length := by omega
        have hj' : (j : Int) < r.length := by omega
        rw [Nat.zero_add]
        exact ⟨_, rfl, by simp (dsimp := false) (implicitDefEqProofs := false) [b38e0, tgIx, a4, pl, hk', pg, tupI, hj', pj, w1, w2, mul2, -List.map_replicate, -List.getElem?_map, exSs, exS, evE.eq_1, evE.eq_2, evE.eq_3, evE.eq_4, evE.eq_5, evE.eq_6, evE.eq_7, evE.eq_8, evE.eq_9, evE.eq_10, evE.eq_11, evE.eq_12, evE.eq_13, evE.eq_14, evE.eq_15, evE.eq_16, evE.eq_17, evE.eq_18, evE.eq_19, evE.eq_20, evE.eq_21, evE.eq_22, evE.eq_23, evE.eq_24, evE.eq_25, evE.eq_26, evE.eq_27, evE.eq_28, evT, evL, evI, evC, evW, startF, setS, idxD, seqOf, ixN, binD, arI, setI, cmpD, intCmp, cmpI, truD, isAny, isD, isNo, pln, vw, eqD, biD, tidy_same, wipe, toR_nx, refIx, augV, valS]⟩) (by
      have := sum_bound (fun d => (rowsOf Y d).length) 4 (enmL 0 (refs (b + 4) l.length)) (fun d hd => by
        obtain ⟨k, hk, rfl⟩ := mem d hd
        have gw : Y[b + 4 + k]? = some (.lst (ndl ((full l r).getD k []))) := th.w k hk
        have hmem : (full l r).getD k [] ∈ full l r := by
          rw [List.getD_eq_getElem?_getD, List.getElem?_eq_getElem (by omega), Option.getD_some]
          exact List.getElem_mem _
        have rl := full_row_len _ hmem
        simp only [rowsOf, gw, enm_len, ndl_len]
        omega)
      rw [enm_len, refs_len] at this
      refine Nat.le_trans this ?_
      unfold LIM
      omega) (by rw [ef]; exact belowL_ints _ _)
  rw [ef] at ec
  have ai := allInt_ints ((full l r).flatMap fun row => row.map fun m => p * ((m : Nat) : Int))
  have sm := sum_all p (full l r)
  rw [full_sum hm.sm] at sm
  rw [run_def (F := ⟨1, 5, b38, true⟩) rfl rfl]
  simp (dsimp := false) (implicitDefEqProofs := false) [b38, ec, lstOf, ai, sm, -List.map_map, exSs, exS, evE.eq_1, evE.eq_2, evE.eq_3, evE.eq_4, evE.eq_5, evE.eq_6, evE.eq_7, evE.eq_8, evE.eq_9, evE.eq_10, evE.eq_11, evE.eq_12, evE.eq_13, evE.eq_14, evE.eq_15, evE.eq_16, evE.eq_17, evE.eq_18, evE.eq_19, evE.eq_20, evE.eq_21, evE.eq_22, evE.eq_23, evE.eq_24, evE.eq_25, evE.eq_26, evE.eq_27, evE.eq_28, evT, evL, evI, evC, evW, startF, setS, idxD, seqOf, ixN, binD, arI, setI, cmpD, intCmp, cmpI, truD, isAny, isD, isNo, pln, vw, eqD, biD, tidy_same, wipe, toR_nx, refIx, augV, valS]
/-- least_table, all prices alike -/
theorem f_ltab1 (n : Nat) {S : Store} (hS : ∀ c ∈ S, belowC 0 c = true) {l r : List Nat} (hm : Mg l r) (h0 : l ≠ []) {p : Int} (hb : l.sum < 2 ^ 100) (hp : p.natAbs < 2 ^ 100) : run T (n + 7) 14 [tn l, tn r, prD l.length r.length p] S = .ok (.tup [.int (p * (l.sum : Nat)), tbD (full l r)]) S := by
  have e1 := f_askp (n + 1) hm p S
  have e2 := f_least n hS hm h0 p hb
  have th := TR_th S l r p l.sum
  have m1 := th.m (q := 13) (v := 38) rfl rfl
  have e3 := f_tcost (n + 5) hm th hb hp
  have a5 := th.a5
  have fl : (full l r).length = l.length := tab_len l r _
  have e4 := f_frozen (n + 5) (S := S ++ TR S.length l r p l.sum l.sum l.sum) (b := S.length + 4) (k := S.length + 3) (t := full l r) (by have := hm.ll; omega) (by rw [fl]; exact th.o) fun i hi => th.w i (by omega)
  rw [run_def (F := ⟨3, 4, b14, true⟩) rfl rfl]
  simp (dsimp := false) (implicitDefEqProofs := false) [b14, e1, e2, m1, e3, a5, e4, exSs, exS, evE.eq_1, evE.eq_2, evE.eq_3, evE.eq_4, evE.eq_5, evE.eq_6, evE.eq_7, evE.eq_8, evE.eq_9, evE.eq_10, evE.eq_11, evE.eq_12, evE.eq_13, evE.eq_14, evE.eq_15, evE.eq_16, evE.eq_17, evE.eq_18, evE.eq_19, evE.eq_20, evE.eq_21, evE.eq_22, evE.eq_23, evE.eq_24, evE.eq_25, evE.eq_26, evE.eq_27, evE.eq_28, evT, evL, evI, evC, evW, startF, setS, idxD, seqOf, ixN, binD, arI, setI, cmpD, intCmp, cmpI, truD, isAny, isD, isNo, pln, vw, eqD, biD, tidy_same, wipe, toR_nx, refIx, augV, valS]
  refine tidy_drop ?_
  have := tb_belowL S.length (full l r)
  simp [below, belowL, this]
def TZ (b : Nat) (r : List Nat) (p : Int) : Store := [.ins 0 [(2, .ref (b + 1)), (3, .ref (b + 2)), (4, prD 0 r.length p), (5, .lst [])], .lst [], .lst (ndl r)]
theorem f_ltab0 (n : Nat) {S : Store} {r : List Nat} (hm : Mg [] r) {p : Int} : run T (n + 7) 14 [tn [], tn r, prD 0 r.length p] S = .ok (.tup [.int 0, tbD []]) S := by
  have e1 : run T (n + 6) 12 [tn [], tn r, prD 0 r.length p] S = .ok .non S := f_askp (n + 1) hm p S
  have hr := hm.sm
  simp only [List.sum_nil] at hr
  have ei : makD T (run T (n + 4)) true 0 [tn [], tn r, prD 0 r.length p] S = .ok (.ref S.length) (S ++ TZ S.length r p) := by
    have er : run T (n + 4) 30 [.ref S.length, tn [], tn r, prD 0 r.length p] (S ++ [.ins 0 []]) = .ok .non (S ++ TZ S.length r p) := by
      rw [run_def (F := ⟨4, 5, b30, true⟩) rfl rfl]
      have fl : fldsOf T 0 = [2, 3, 4, 5] := rfl
      have G1 (W : Store) (f : List (Nat × D)) : (S ++ .ins 0 f :: W)[S.length]? = some (.ins 0 f) := by rw [ag0]; rfl
      have S1 (W : Store) (c : Cell) (f : List (Nat × D)) : (S ++ .ins 0 f :: W).set S.length c = S ++ c :: W := by rw [as0]; rfl
      have ex (X : Store) : evE (csOf T (n + 3)) (.lc false [4] (.nm 4) (.seq (.var 1)) .no b30e1) [some (.ref S.length), some (tn []), some (tn r), some (prD 0 r.length p), none] X = .ok (.lst []) X := by
        exact lc_map (C := csOf T (n + 3)) (own := [4]) (tg := .nm 4) (it := .seq (.var 1)) (e := b30e1) (ρ := [some (.ref S.length), some (tn []), some (tn r), some (prD 0 r.length p), none]) (S := X) (l := []) (g := []) (fun d => d) (by simp (dsimp := false) (implicitDefEqProofs := false) [seqIt, Ev.guard, ndl, exSs, exS, evE.eq_1, evE.eq_2, evE.eq_3, evE.eq_4, evE.eq_5, evE.eq_6, evE.eq_7, evE.eq_8, evE.eq_9, evE.eq_10, evE.eq_11, evE.eq_12, evE.eq_13, evE.eq_14, evE.eq_15, evE.eq_16, evE.eq_17, evE.eq_18, evE.eq_19, evE.eq_20, evE.eq_21, evE.eq_22, evE.eq_23, evE.eq_24, evE.eq_25, evE.eq_26, evE.eq_27, evE.eq_28, evT, evL, evI, evC, evW, startF, setS, idxD, seqOf, ixN, binD, arI, setI, cmpD, intCmp, cmpI, truD, isAny, isD, isNo, pln, vw, eqD, biD, tidy_same, wipe, toR_nx, refIx, augV, valS]) (fun c => gOk_nil _) (fun d hd => by simp at hd) (by simp) (by simp [belowL])
      simp (dsimp := false) (implicitDefEqProofs := false) [b30, lstOf, mkL, G1, S1, fl, putN, ex, exSs, exS, evE.eq_1, evE.eq_2, evE.eq_3, evE.eq_4, evE.eq_5, evE.eq_6, evE.eq_7, evE.eq_8, evE.eq_9, evE.eq_10, evE.eq_11, evE.eq_12, evE.eq_13, evE.eq_14, evE.eq_15, evE.eq_16, evE.eq_17, evE.eq_18, evE.eq_19, evE.eq_20, evE.eq_21, evE.eq_22, evE.eq_23, evE.eq_24, evE.eq_25, evE.eq_26, evE.eq_27, evE.eq_28, evT, evL, evI, evC, evW, startF, setS, idxD, seqOf, ixN, binD, arI, setI, cmpD, intCmp, cmpI, truD, isAny, isD, isNo, pln, vw, eqD, biD, tidy_same, wipe, toR_nx, refIx, augV, valS]
      have c0 : cutOk (S ++ [.ins 0 []]) (S ++ TZ S.length r p) = false := by
        have tk : (S ++ TZ S.length r p).take (S ++ [Cell.ins 0 []]).length = S ++ [.ins 0 [(2, .ref (S.length + 1)), (3, .ref (S.length + 2)), (4, prD 0 r.length p), (5, .lst [])]] := by
          rw [List.take_append, List.take_of_length_le (by simp)]
          simp [TZ]
        unfold cutOk
        rw [tk]
        simp [belowC, belowL, below]
      unfold TZ at c0 ⊢
      have ez : ndl ([] : List Nat) = [] := rfl
      rw [ez]
      unfold Ev.tidy
      simp only [c0, Bool.false_eq_true, if_false]
    unfold makD
    have hc : T.cls[0]? = some ⟨[2, 3, 4, 5], some 30, [(6, 31), (7, 32), (8, 33), (9, 34), (10, 35), (11, 36), (12, 37), (13, 38), (14, 39)]⟩ := rfl
    simp only [hc, er, if_true]
  have g0 : (S ++ TZ S.length r p)[S.length]? = some (.ins 0 [(2, .ref (S.length + 1)), (3, .ref (S.length + 2)), (4, prD 0 r.length p), (5, .lst [])]) := by rw [ag0]; rfl
  have g2 : (S ++ TZ S.length r p)[S.length + 2]? = some (.lst (ndl r)) := by rw [ag]; rfl
  have a3 : attD T (.ref S.length) 3 (S ++ TZ S.length r p) = some (.ref (S.length + 2)) := att_of g0 rfl rfl
  have a5 : attD T (.ref S.length) 5 (S ++ TZ S.length r p) = some (.lst []) := att_of g0 rfl rfl
  have ms : mthOf T (.ref S.length) 12 (S ++ TZ S.length r p) = some 37 := mth_of g0 rfl rfl
  have mc : mthOf T (.ref S.length) 13 (S ++ TZ S.length r p) = some 38 := mth_of g0 rfl rfl
  have cut : cutOk S (S ++ TZ S.length r p) = true := by simp [cutOk]
  have tk : (S ++ TZ S.length r p).take S.length = S := by simp
  generalize S ++ TZ S.length r p = Y at *
  have ai := allInt_ndl r
  have sm := sumI_nd r
  rw [← hr] at sm
  have es : run T (n + 5) 37 [.ref S.length] Y = .ok .non Y := by
    rw [run_def (F := ⟨1, 1, b37, true⟩) rfl rfl]
    have ew : whlN (fun ρ S => evT (csOf T (n + 4)) b37t0 ρ S) (fun ρ S => exSs (csOf T (n + 4)) b37l0 ρ S) 1 [some (.ref S.length)] Y = some (.nx [some (.ref S.length)] Y) := whlN_end (by simp (dsimp := false) (implicitDefEqProofs := false) [b37t0, a3, lstOf, g2, ai, sm, -List.map_map, exSs, exS, evE.eq_1, evE.eq_2, evE.eq_3, evE.eq_4, evE.eq_5, evE.eq_6, evE.eq_7, evE.eq_8, evE.eq_9, evE.eq_10, evE.eq_11, evE.eq_12, evE.eq_13, evE.eq_14, evE.eq_15, evE.eq_16, evE.eq_17, evE.eq_18, evE.eq_19, evE.eq_20, evE.eq_21, evE.eq_22, evE.eq_23, evE.eq_24, evE.eq_25, evE.eq_26, evE.eq_27, evE.eq_28, evT, evL, evI, evC, evW, startF, setS, idxD, seqOf, ixN, binD, arI, setI, cmpD, intCmp, cmpI, truD, isAny, isD, isNo, pln, vw, eqD, biD, tidy_same, wipe, toR_nx, refIx, augV, valS])
    simp (dsimp := false) (implicitDefEqProofs := false) [b37, whl_of ew, exSs, exS, evE.eq_1, evE.eq_2, evE.eq_3, evE.eq_4, evE.eq_5, evE.eq_6, evE.eq_7, evE.eq_8, evE.eq_9, evE.eq_10, evE.eq_11, evE.eq_12, evE.eq_13, evE.eq_14, evE.eq_15, evE.eq_16, evE.eq_17, evE.eq_18, evE.eq_19, evE.eq_20, evE.eq_21, evE.eq_22, evE.eq_23, evE.eq_24, evE.eq_25, evE.eq_26, evE.eq_27, evE.eq_28, evT, evL, evI, evC, evW, startF, setS, idxD, seqOf, ixN, binD, arI, setI, cmpD, intCmp, cmpI, truD, isAny, isD, isNo, pln, vw, eqD, biD, tidy_same, wipe, toR_nx, refIx, augV, valS]
  have e2 : run T (n + 6) 9 [tn [], tn r, prD 0 r.length p] S = .ok (.ref S.length) Y := by
    rw [run_def (F := ⟨3, 4, b9, true⟩) rfl rfl]
    simp (dsimp := false) (implicitDefEqProofs := false) [b9, csOf_fn1, ei, ms, es, exSs, exS, evE.eq_1, evE.eq_2, evE.eq_3, evE.eq_4, evE.eq_5, evE.eq_6, evE.eq_7, evE.eq_8, evE.eq_9, evE.eq_10, evE.eq_11, evE.eq_12, evE.eq_13, evE.eq_14, evE.eq_15, evE.eq_16, evE.eq_17, evE.eq_18, evE.eq_19, evE.eq_20, evE.eq_21, evE.eq_22, evE.eq_23, evE.eq_24, evE.eq_25, evE.eq_26, evE.eq_27, evE.eq_28, evT, evL, evI, evC, evW, startF, setS, idxD, seqOf, ixN, binD, arI, setI, cmpD, intCmp, cmpI, truD, isAny, isD, isNo, pln, vw, eqD, biD, tidy_same, wipe, toR_nx, refIx, augV, valS]
    unfold Ev.tidy
    have nb : below S.length (.ref S.length) = false := by simp [below]
    simp only [cut, if_true, nb, g0, Bool.false_eq_true, if_false]
  have e3 : run T (n + 6) 38 [.ref S.length] Y = .ok (.int 0) Y := by
    rw [run_def (F := ⟨1, 5, b38, true⟩) rfl rfl]
    have ec := lc2_map (C := csOf T (n + 5)) (own := [1, 2, 3, 4]) (tg := .tp [1, 2]) (tg2 := .tp [3, 4]) (it := .enm (.att (.var 0) 5)) (it2 := .enm (.var 2)) (e := b38e0) (ρ := [some (.ref S.length), none, none, none, none]) (S := Y) (l := []) (g := []) (rowsOf Y) (mul2 p)
      (by simp (dsimp := false) (implicitDefEqProofs := false) [enmIt, enmL, Ev.guard, a5, exSs, exS, evE.eq_1, evE.eq_2, evE.eq_3, evE.eq_4, evE.eq_5, evE.eq_6, evE.eq_7, evE.eq_8, evE.eq_9, evE.eq_10, evE.eq_11, evE.eq_12, evE.eq_13, evE.eq_14, evE.eq_15, evE.eq_16, evE.eq_17, evE.eq_18, evE.eq_19, evE.eq_20, evE.eq_21, evE.eq_22, evE.eq_23, evE.eq_24, evE.eq_25, evE.eq_26, evE.eq_27, evE.eq_28, evT, evL, evI, evC, evW, startF, setS, idxD, seqOf, ixN, binD, arI, setI, cmpD, intCmp, cmpI, truD, isAny, isD, isNo, pln, vw, eqD, biD, tidy_same, wipe, toR_nx, refIx, augV, valS]) (fun c => gOk_nil _) (fun d hd c => by simp at hd) (by simp) (by simp [belowL])
    simp only [List.flatMap_nil] at ec
    simp (dsimp := false) (implicitDefEqProofs := false) [b38, ec, lstOf, allInt, sumI, exSs, exS, evE.eq_1, evE.eq_2, evE.eq_3, evE.eq_4, evE.eq_5, evE.eq_6, evE.eq_7, evE.eq_8, evE.eq_9, evE.eq_10, evE.eq_11, evE.eq_12, evE.eq_13, evE.eq_14, evE.eq_15, evE.eq_16, evE.eq_17, evE.eq_18, evE.eq_19, evE.eq_20, evE.eq_21, evE.eq_22, evE.eq_23, evE.eq_24, evE.eq_25, evE.eq_26, evE.eq_27, evE.eq_28, evT, evL, evI, evC, evW, startF, setS, idxD, seqOf, ixN, binD, arI, setI, cmpD, intCmp, cmpI, truD, isAny, isD, isNo, pln, vw, eqD, biD, tidy_same, wipe, toR_nx, refIx, augV, valS]
  have e4 : run T (n + 6) 8 [.lst []] Y = .ok (tbD []) Y := by
    rw [run_def (F := ⟨1, 2, b8, false⟩) rfl rfl]
    have e := lc_map (C := csOf T (n + 5)) (own := [1]) (tg := .nm 1) (it := .seq (.var 0)) (e := b8e0) (ρ := [some (.lst []), none]) (S := Y) (l := []) (g := []) (fun d => d) (by simp (dsimp := false) (implicitDefEqProofs := false) [seqIt, Ev.guard, exSs, exS, evE.eq_1, evE.eq_2, evE.eq_3, evE.eq_4, evE.eq_5, evE.eq_6, evE.eq_7, evE.eq_8, evE.eq_9, evE.eq_10, evE.eq_11, evE.eq_12, evE.eq_13, evE.eq_14, evE.eq_15, evE.eq_16, evE.eq_17, evE.eq_18, evE.eq_19, evE.eq_20, evE.eq_21, evE.eq_22, evE.eq_23, evE.eq_24, evE.eq_25, evE.eq_26, evE.eq_27, evE.eq_28, evT, evL, evI, evC, evW, startF, setS, idxD, seqOf, ixN, binD, arI, setI, cmpD, intCmp, cmpI, truD, isAny, isD, isNo, pln, vw, eqD, biD, tidy_same, wipe, toR_nx, refIx, augV, valS]) (fun c => gOk_nil _) (fun d hd => by simp at hd) (by simp) (by simp [belowL])
    simp (dsimp := false) (implicitDefEqProofs := false) [b8, e, lstOf, exSs, exS, evE.eq_1, evE.eq_2, evE.eq_3, evE.eq_4, evE.eq_5, evE.eq_6, evE.eq_7, evE.eq_8, evE.eq_9, evE.eq_10, evE.eq_11, evE.eq_12, evE.eq_13, evE.eq_14, evE.eq_15, evE.eq_16, evE.eq_17, evE.eq_18, evE.eq_19, evE.eq_20, evE.eq_21, evE.eq_22, evE.eq_23, evE.eq_24, evE.eq_25, evE.eq_26, evE.eq_27, evE.eq_28, evT, evL, evI, evC, evW, startF, setS, idxD, seqOf, ixN, binD, arI, setI, cmpD, intCmp, cmpI, truD, isAny, isD, isNo, pln, vw, eqD, biD, tidy_same, wipe, toR_nx, refIx, augV, valS]
  rw [run_def (F := ⟨3, 4, b14, true⟩) rfl rfl]
  simp (dsimp := false) (implicitDefEqProofs := false) [b14, e1, e2, mc, e3, a5, e4, exSs, exS, evE.eq_1, evE.eq_2, evE.eq_3, evE.eq_4, evE.eq_5, evE.eq_6, evE.eq_7, evE.eq_8, evE.eq_9, evE.eq_10, evE.eq_11, evE.eq_12, evE.eq_13, evE.eq_14, evE.eq_15, evE.eq_16, evE.eq_17, evE.eq_18, evE.eq_19, evE.eq_20, evE.eq_21, evE.eq_22, evE.eq_23, evE.eq_24, evE.eq_25, evE.eq_26, evE.eq_27, evE.eq_28, evT, evL, evI, evC, evW, startF, setS, idxD, seqOf, ixN, binD, arI, setI, cmpD, intCmp, cmpI, truD, isAny, isD, isNo, pln, vw, eqD, biD, tidy_same, wipe, toR_nx, refIx, augV, valS]
  unfold Ev.tidy
  have nb : below S.length (.tup [.int 0, tbD []]) = true := rfl
  simp only [cut, if_true, nb, tk]
theorem f_ltab (n : Nat) {S : Store} (hS : ∀ c ∈ S, belowC 0 c = true) {l r : List Nat} (hm : Mg l r) {p : Int} (hb : l.sum < 2 ^ 100) (hp : p.natAbs < 2 ^ 100) : run T (n + 7) 14 [tn l, tn r, prD l.length r.length p] S = .ok (.tup [.int (p * (l.sum : Nat)), tbD (full l r)]) S := by
  by_cases h0 : l = []
  · subst h0
    rw [full_nil]
    have := f_ltab0 n (S := S) hm (p := p)
    rw [show p * ((([] : List Nat).sum : Nat) : Int) = 0 by simp]
    exact this
  · exact f_ltab1 n hS hm h0 hb hp
end Lw
end
section
set_option maxRecDepth 100000
set_option maxHeartbeats 8000000
namespace Lw
open Ev Lg
theorem sam (k : Nat) (d : D) (h : sm k d = true) {n : Nat} (hn : k ≤ n) (S : Store) : run T (n + 1) 24 [d, d] S = .ok (.bl true) S := same_of (T := T) (f := 24) rfl k d h n S hn
/-- a value that is handed back, new cells dropped -/
theorem QD.tidyV {ns : List Int} {X : Store} {k : Nat} {S S' : Store} (q : QD ns X k S) {k' : Nat} (q' : QD ns X k' S') {fz : Bool} {d : D} {Y : Store} (hb : below S.length d = true) : Ev.tidy fz S (.ok d (S' ++ Y)) = .ok d S' := by
  have l1 := q.len
  have l2 := q'.len
  unfold Ev.tidy
  have t : (S' ++ Y).take S.length = S' := by rw [l1, ← l2]; simp
  simp only [q.cut q', if_true, hb, t]
theorem mg_loop (n : Nat) {ns : List Int} {X : Store} {m tot : Nat} (hm : m ≤ 4) (y1 y5 : Option D) : ∀ (c i t : Nat) (out : List Nat) (k : Nat) (S : Store) (y4 y6 y7 : Option D), i + c = m → out.length = i → out.sum + t = tot → t ≤ 12 * c → QD ns (X ++ [.lst (ndl out)]) k S → k + 2 * c < 2 ^ 60 →
    ∃ (out' : List Nat) (S' : Store) (z2 z4 z6 z7 : Option D), forL (.nm 4) (fun ρ S => exSs (csOf T (n + 1)) b25l0 ρ S) [] (upTo (i : Nat) c) [some (.ref 0), some (.int (m : Nat)), some (.int (t : Nat)), some (.ref (X.length + 1)), y4, y5, y6, y7] S = .nx [some (.ref 0), some (.int (m : Nat)), z2, some (.ref (X.length + 1)), z4, y5, z6, z7] S' ∧
      QD ns (X ++ [.lst (ndl out')]) (k + 2 * c) S' ∧ out'.length = m ∧ out'.sum = tot
  | 0, i, t, out, k, S, y4, y6, y7, h, ho, hs, ht, q, hk => ⟨out, S, _, y4, y6, y7, forL_nil, q, by omega, by omega⟩
  | c + 1, i, t, out, k, S, y4, y6, y7, h, ho, hs, ht, q, hk => by
    obtain ⟨lo, hlo⟩ : ∃ lo, lo = t - 12 * c := ⟨_, rfl⟩
    obtain ⟨hi, hhi⟩ : ∃ hi, hi = min 12 t := ⟨_, rfl⟩
    obtain ⟨a, S1, e1, q1, a1⟩ := dq q (by omega) (m := (hi : Int) - lo + 1) (by omega) (by omega) n
    obtain ⟨b, S2, e2, q2, b1⟩ := dq q1 (by omega) (m := 3) (by omega) (by omega) n
    obtain ⟨v, hv, v1, v2⟩ : ∃ v, ([lo, hi, lo + a] : List Nat)[b]? = some v ∧ lo ≤ v ∧ v ≤ hi := by
      have hb : b = 0 ∨ b = 1 ∨ b = 2 := by omega
      rcases hb with rfl | rfl | rfl
      · exact ⟨lo, rfl, by omega, by omega⟩
      · exact ⟨hi, rfl, by omega, by omega⟩
      · exact ⟨lo + a, rfl, by omega, by omega⟩
    obtain ⟨S3, rfl, q3⟩ := q2.un
    have q4 := q3.app (c := .lst (ndl (out ++ [v]))) (ndl_below 0 _)
    obtain ⟨out', S', z2, z4, z6, z7, e3, q5, r1, r2⟩ := mg_loop (tot := tot) n hm y1 y5 c (i + 1) (t - v) (out ++ [v]) (k + 2) _ (some (.int (i : Nat))) (some (.int (lo : Nat))) (some (.int (hi : Nat))) (by omega) (by simp [ho]) (by simp; omega) (by omega) q4 (by omega)
    refine ⟨out', S', z2, z4, z6, z7, ?_, q5.mono (by omega), r1, r2⟩
    push_cast at e3
    rw [← e3]
    have l3 := q3.len
    have dv : (t : Int) - (v : Int) = ((t - v : Nat) : Int) := by omega
    have g1 : (S3 ++ [Cell.lst (ndl out)])[X.length + 1]? = some (.lst (ndl out)) := by rw [← l3]; simp
    have g2 : (S3 ++ [Cell.lst (ndl (out ++ [v]))])[X.length + 1]? = some (.lst (ndl (out ++ [v]))) := by rw [← l3]; simp
    have s2 : (S3 ++ [Cell.lst (ndl out)]).set (X.length + 1) (.lst (ndl out ++ [.int (v : Nat)])) = S3 ++ [Cell.lst (ndl (out ++ [v]))] := by rw [← l3, ndl_app]; simp
    have lt : (ndl out).length < LIM := by rw [ndl_len]; unfold LIM; omega
    have ll : (ndl (out ++ [v])).length = i + 1 := by rw [ndl_len]; simp [ho]
    have gv : (ndl (out ++ [v]))[i]? = some (.int (v : Nat)) := by
      rw [ndl_app, List.getElem?_append_right (by rw [ndl_len]; omega), ndl_len, ho, Nat.sub_self]
      rfl
    have e1' : run T (n + 1) 22 [.ref 0, .int ((hi : Int) - lo + 1)] S = .ok (.int (a : Nat)) S1 := e1
    have mc : (m : Int) - 1 - (i : Nat) = (c : Nat) := by omega
    have w1 : c < Wd := wd_n (by omega)
    have w2 : 12 < Wd := wd_n (by decide)
    have lo1 : (if 12 * (c : Int) < t then (t : Int) - 12 * (c : Nat) else 0) = (lo : Nat) := by split <;> omega
    have hvD : ([D.int (lo : Nat), D.int (hi : Nat), D.int ((lo : Int) + (a : Int))])[b]? = some (.int (v : Nat)) := by
      have := congrArg (Option.map fun x : Nat => D.int (x : Nat)) hv
      rw [← List.getElem?_map] at this
      simpa using this
    obtain ⟨S0, rfl, q0⟩ := q.un
    have g0 : (S0 ++ [Cell.lst (ndl out)])[X.length + 1]? = some (.lst (ndl out)) := by rw [← q0.len]; simp
    have b3 : (b : Int) < 3 := b1
    have hi1 : (if (t : Int) < 12 then (t : Int) else 12) = (hi : Nat) := by split <;> omega
    have hi2 : (if t < 12 then (t : Int) else 12) = (hi : Nat) := by split <;> omega
    generalize ndl (out ++ [v]) = o1 at g2 s2 ll gv ⊢
    obtain ⟨w, hw⟩ : ∃ w, w = i + 1 := ⟨_, rfl⟩
    rw [← hw] at ll
    have ii : (i : Int) < w := by omega
    exact forL_nx rfl (by simp (dsimp := false) (implicitDefEqProofs := false) [b25l0, mc, w1, w2, lo1, hi1, hi2, e1', mkL, e2, bmOk, bmD, g0, g1, lt, b3, hvD, s2, g2, ll, ii, gv, dv, exSs, exS, evE.eq_1, evE.eq_2, evE.eq_3, evE.eq_4, evE.eq_5, evE.eq_6, evE.eq_7, evE.eq_8, evE.eq_9, evE.eq_10, evE.eq_11, evE.eq_12, evE.eq_13, evE.eq_14, evE.eq_15, evE.eq_16, evE.eq_17, evE.eq_18, evE.eq_19, evE.eq_20, evE.eq_21, evE.eq_22, evE.eq_23, evE.eq_24, evE.eq_25, evE.eq_26, evE.eq_27, evE.eq_28, evT, evL, evI, evC, evW, startF, setS, idxD, seqOf, ixN, binD, arI, setI, cmpD, intCmp, cmpI, truD, isAny, isD, isNo, pln, vw, eqD, biD, tidy_same, wipe, toR_nx, refIx, augV, valS])
theorem sum_perm {π : List Nat} {m : Nat} {l : List Nat} (h : π.Perm (List.range m)) (hl : l.length = m) : (π.map fun k => l.getD k 0).sum = l.sum := by
  have e : (List.range m).map (fun k => l.getD k 0) = l := by
    apply List.ext_getElem
    · simp [hl]
    · intro k h1 h2
      simp [h2]
  have := (h.map fun k => l.getD k 0).sum_nat
  rw [this, e]
def getN (l : List Nat) : D → D := dN fun k => l.getD k 0
theorem lc_mapS {C : Cs} {own : List Nat} {tg : Tg} {it : Iter} {e : Ex} {ρ : Fr} {S0 S : Store} {l : List D} {g : Gd} (v : D → D)
    (hw : evW C it ρ S0 = .ok (l, g) S) (hg : ∀ c, gOk g (S ++ [c]) = true)
    (h : ∀ d ∈ l, ∀ x, ∃ ρ1, setT tg d (wipe ρ own) (S ++ [x]) = some ρ1 ∧ evE C e ρ1 (S ++ [x]) = .ok (v d) (S ++ [x]))
    (hl : l.length ≤ LIM) (hb : belowL S.length (l.map v) = true) : evE C (.lc false own tg it .no e) ρ S0 = .ok (.lst (l.map v)) S := by
  rw [evE.eq_29, hw, th_ok]
  have := lcL_pure (fc := fun ρ S => evC C .no ρ S) (fe := fun ρ S => evE C e ρ S) (X := S) (fun _ => true) v hg l [] (fun d hd x => by
    obtain ⟨ρ1, h1, h2⟩ := h d hd x
    exact ⟨ρ1, h1, by simp [evC], fun _ => h2⟩) (by simpa using hl)
  rw [this]
  simp only [Rs.nox, th_ok, List.nil_append, flt_true]
  exact lcE_pure hb
theorem perm_ev (n : Nat) {own : List Nat} {v : Nat} {e : Ex} {it : Iter} {ρ : Fr} {S0 S : Store} {π : List Nat} {m : Nat} {l : List Nat} (h : π.Perm (List.range m)) (hm : m ≤ 1000)
    (hw : evW (csOf T n) it ρ S0 = .ok (ndl π, []) S) (he : ∀ k, k < m → ∀ x, evE (csOf T n) e (setS (wipe ρ own) v (.int (k : Nat))) (S ++ [x]) = .ok (.int (l.getD k 0 : Nat)) (S ++ [x])) :
    evE (csOf T n) (.lc false own (.nm v) it .no e) ρ S0 = .ok (.lst (ndl (π.map fun k => l.getD k 0))) S := by
  have em : (ndl π).map (getN l) = ndl (π.map fun k => l.getD k 0) := mapDN _ π
  have := lc_mapS (C := csOf T n) (own := own) (tg := .nm v) (it := it) (e := e) (ρ := ρ) (S0 := S0) (S := S) (l := ndl π) (g := []) (getN l) hw (fun c => gOk_nil _) (fun d hd x => by
    obtain ⟨k, hk, rfl⟩ := List.mem_map.mp hd
    have : k < m := List.mem_range.mp (h.mem_iff.mp hk)
    exact ⟨_, rfl, he k this x⟩) (by rw [ndl_len, h.length_eq, List.length_range]; exact lim_le hm) (by rw [em]; exact ndl_below _ _)
  rw [em] at this
  exact this
theorem f_margin (n : Nat) {ns : List Int} {X : Store} {k : Nat} {S : Store} (q : QD ns X k S) (hk : k < 2 ^ 50) {m tot : Nat} (hm : m ≤ 4) (ht : tot ≤ 12 * m) : ∃ (l : List Nat) (S' : Store), run T (n + 3) 25 [.ref 0, .int (m : Nat), .int (tot : Nat)] S = .ok (tn l) S' ∧ QD ns X (k + 12) S' ∧ l.length = m ∧ l.sum = tot := by
  have q1 := q.app (c := .lst (ndl [])) rfl
  obtain ⟨out, S1, z2, z4, z6, z7, e, q2, h1, h2⟩ := mg_loop (tot := tot) (n + 1) hm (some (.int (m : Nat))) none m 0 tot [] k _ none none none (by omega) rfl (by simp) ht q1 (by omega)
  obtain ⟨π, S2, eo, q3, hp⟩ := order (n := n) q2 (m := m) (by omega) (by omega)
  obtain ⟨S3, rfl, q4⟩ := q3.un
  refine ⟨π.map fun k => out.getD k 0, S3, ?_, q4.mono (by omega), by rw [List.length_map, hp.length_eq, List.length_range], by rw [sum_perm hp h1, h2]⟩
  have l1 := q.len
  have l4 := q4.len
  have lim : (m : Int) ≤ LIM ∧ -(LIM : Int) ≤ m := by unfold LIM; omega
  have z0 : ((0 : Nat) : Int) = 0 := rfl
  rw [z0] at e
  have ez : ndl ([] : List Nat) = [] := rfl
  rw [ez] at e
  have g1 : (S3 ++ [Cell.lst (ndl out)])[X.length + 1]? = some (.lst (ndl out)) := by rw [← l4]; simp
  have ep := perm_ev (n + 2) (own := [4]) (v := 4) (e := b25e0) (it := .seq (.var 5)) (ρ := [some (.ref 0), some (.int (m : Nat)), z2, some (.ref (X.length + 1)), z4, some (.lst (ndl π)), z6, z7]) (S0 := S3 ++ [Cell.lst (ndl out)]) (S := S3 ++ [Cell.lst (ndl out)]) (l := out) hp (by omega) (by simp (dsimp := false) (implicitDefEqProofs := false) [seqIt, Ev.guard, exSs, exS, evE.eq_1, evE.eq_2, evE.eq_3, evE.eq_4, evE.eq_5, evE.eq_6, evE.eq_7, evE.eq_8, evE.eq_9, evE.eq_10, evE.eq_11, evE.eq_12, evE.eq_13, evE.eq_14, evE.eq_15, evE.eq_16, evE.eq_17, evE.eq_18, evE.eq_19, evE.eq_20, evE.eq_21, evE.eq_22, evE.eq_23, evE.eq_24, evE.eq_25, evE.eq_26, evE.eq_27, evE.eq_28, evT, evL, evI, evC, evW, startF, setS, idxD, seqOf, ixN, binD, arI, setI, cmpD, intCmp, cmpI, truD, isAny, isD, isNo, pln, vw, eqD, biD, tidy_same, wipe, toR_nx, refIx, augV, valS]) (fun k hk x => by
    have g2 := gapp (W := [x]) g1
    have gk := ndl_get (l := out) (k := k) (by omega)
    have ll : (ndl out).length = m := by rw [ndl_len, h1]
    generalize S3 ++ [Cell.lst (ndl out)] ++ [x] = Z at g2 ⊢
    generalize out.getD k 0 = v at gk ⊢
    generalize ndl out = o1 at g2 gk ll
    have hk' : (k : Int) < m := by omega
    simp (dsimp := false) (implicitDefEqProofs := false) [b25e0, g2, ll, hk', gk, exSs, exS, evE.eq_1, evE.eq_2, evE.eq_3, evE.eq_4, evE.eq_5, evE.eq_6, evE.eq_7, evE.eq_8, evE.eq_9, evE.eq_10, evE.eq_11, evE.eq_12, evE.eq_13, evE.eq_14, evE.eq_15, evE.eq_16, evE.eq_17, evE.eq_18, evE.eq_19, evE.eq_20, evE.eq_21, evE.eq_22, evE.eq_23, evE.eq_24, evE.eq_25, evE.eq_26, evE.eq_27, evE.eq_28, evT, evL, evI, evC, evW, startF, setS, idxD, seqOf, ixN, binD, arI, setI, cmpD, intCmp, cmpI, truD, isAny, isD, isNo, pln, vw, eqD, biD, tidy_same, wipe, toR_nx, refIx, augV, valS])
  have eo' : run T (n + 2) 23 [.ref 0, .int (m : Nat)] S1 = .ok (.lst (ndl π)) (S3 ++ [Cell.lst (ndl out)]) := eo
  rw [run_def (F := ⟨3, 8, b25, false⟩) rfl rfl]
  simp (dsimp := false) (implicitDefEqProofs := false) [b25, mkL, l1, rngIt, lim, e, eo', ep, lstOf, exSs, exS, evE.eq_1, evE.eq_2, evE.eq_3, evE.eq_4, evE.eq_5, evE.eq_6, evE.eq_7, evE.eq_8, evE.eq_9, evE.eq_10, evE.eq_11, evE.eq_12, evE.eq_13, evE.eq_14, evE.eq_15, evE.eq_16, evE.eq_17, evE.eq_18, evE.eq_19, evE.eq_20, evE.eq_21, evE.eq_22, evE.eq_23, evE.eq_24, evE.eq_25, evE.eq_26, evE.eq_27, evE.eq_28, evT, evL, evI, evC, evW, startF, setS, idxD, seqOf, ixN, binD, arI, setI, cmpD, intCmp, cmpI, truD, isAny, isD, isNo, pln, vw, eqD, biD, tidy_same, wipe, toR_nx, refIx, augV, valS]
  exact q.tidyV q4 (tn_below _ _)
end Lw
end
section
set_option maxRecDepth 100000
set_option maxHeartbeats 8000000
namespace Lw
open Ev Lg
theorem pick8 {r : Nat} (h : (r : Int) < 8) : ∃ m, m ≤ 4 ∧ ([D.int 0, .int 1, .int 2, .int 2, .int 3, .int 3, .int 4, .int 4])[r]? = some (.int (m : Nat)) := by
  have h : r < 8 := by omega
  have : r = 0 ∨ r = 1 ∨ r = 2 ∨ r = 3 ∨ r = 4 ∨ r = 5 ∨ r = 6 ∨ r = 7 := by omega
  rcases this with rfl | rfl | rfl | rfl | rfl | rfl | rfl | rfl
  · exact ⟨0, by omega, rfl⟩
  · exact ⟨1, by omega, rfl⟩
  · exact ⟨2, by omega, rfl⟩
  · exact ⟨2, by omega, rfl⟩
  · exact ⟨3, by omega, rfl⟩
  · exact ⟨3, by omega, rfl⟩
  · exact ⟨4, by omega, rfl⟩
  · exact ⟨4, by omega, rfl⟩
theorem lr_below (n : Nat) (l r : List Nat) : below n (.tup [tn l, tn r]) = true := by
  have h1 := tn_below n l
  have h2 := tn_below n r
  simp only [below, belowL] at h1 h2 ⊢
  simp [h1, h2]
theorem f_margins (n : Nat) {ns : List Int} {k : Nat} {S : Store} (q : QD ns [] k S) (hk : k < 2 ^ 40) : ∃ (l r : List Nat) (S' : Store), run T (n + 4) 26 [.ref 0] S = .ok (.tup [tn l, tn r]) S' ∧ QD ns [] (k + 40) S' ∧ Mg l r ∧ l.sum ≤ 48 := by
  obtain ⟨r1, S1, e1, q1, h1⟩ := dq q (by omega) (m := 8) (by omega) (by omega) (n + 2)
  obtain ⟨m, hm, g1⟩ := pick8 h1
  obtain ⟨r2, S2, e2, q2, h2⟩ := dq q1 (by omega) (m := 8) (by omega) (by omega) (n + 2)
  obtain ⟨w, hw, g2⟩ := pick8 h2
  obtain ⟨mo, hmo⟩ : ∃ mo, mo = 12 * min m w := ⟨_, rfl⟩
  obtain ⟨r3, S3, e3, q3, h3⟩ := dq q2 (by omega) (m := 3) (by omega) (by omega) (n + 2)
  obtain ⟨b, hb, g3⟩ : ∃ b, (0 < b ∧ b < 60) ∧ ([D.int ((mo : Int) + 1), .int 7, .int 13])[r3]? = some (.int (b : Nat)) := by
    have : r3 = 0 ∨ r3 = 1 ∨ r3 = 2 := by omega
    rcases this with rfl | rfl | rfl
    · exact ⟨mo + 1, by omega, by simp⟩
    · exact ⟨7, by omega, rfl⟩
    · exact ⟨13, by omega, rfl⟩
  obtain ⟨r4, S4, e4, q4, h4⟩ := dq q3 (by omega) (m := (b : Nat)) (by omega) (by omega) (n + 2)
  obtain ⟨tot, htot⟩ : ∃ tot, tot = min mo r4 := ⟨_, rfl⟩
  obtain ⟨l, S5, e5, q5, l1, l2⟩ := f_margin n q4 (by omega) (m := m) (tot := tot) hm (by omega)
  obtain ⟨r, S6, e6, q6, l3, l4⟩ := f_margin n q5 (by omega) (m := w) (tot := tot) hw (by omega)
  have mn : (if (w : Int) < m then (w : Int) else m) = ((min m w : Nat) : Int) := by split <;> omega
  have mn2 : (if w < m then (w : Int) else m) = ((min m w : Nat) : Int) := by split <;> omega
  have mt : (if (r4 : Int) < mo then (r4 : Int) else mo) = (tot : Nat) := by split <;> omega
  have mt2 : (if r4 < mo then (r4 : Int) else mo) = (tot : Nat) := by split <;> omega
  have mm : 12 * ((min m w : Nat) : Int) = (mo : Nat) := by omega
  have w1 : 12 < Wd := wd_n (by decide)
  have w2 : min m w < Wd := wd_n (by omega)
  generalize hmn : min m w = mw at *
  rw [run_def (F := ⟨1, 8, b26, true⟩) rfl rfl]
  by_cases hmw : m = w
  · obtain ⟨r7, S7, e7, q7, h7⟩ := dq q6 (by omega) (m := 4) (by omega) (by omega) (n + 2)
    by_cases hz : r7 = 0
    · subst hz
      obtain ⟨π, S8, eo, q8, hp⟩ := order (n := n + 1) q7 (m := m) (by omega) (by omega)
      have eo : run T (n + 3) 23 [.ref 0, .int (m : Nat)] S7 = .ok (.lst (ndl π)) S8 := eo
      refine ⟨l, π.map fun k => l.getD k 0, S8, ?_, q8.mono (by omega), ⟨by omega, by rw [List.length_map, hp.length_eq, List.length_range]; omega, by rw [sum_perm hp l1]⟩, by omega⟩
      have hmw' : ((m : Int) == w) = true := by simp [hmw]
      have el := perm_ev (n + 3) (own := [7]) (v := 7) (e := b26e0) (it := .seq (.call 23 (.cons (.var 0) (.cons (.var 1) .nil)))) (ρ := [some (.ref 0), some (.int (m : Nat)), some (.int (w : Nat)), some (.int (mo : Nat)), some (.int (tot : Nat)), some (tn l), some (tn r), none]) (S0 := S7) (S := S8) (l := l) hp (by omega) (by simp (dsimp := false) (implicitDefEqProofs := false) [eo, seqIt, Ev.guard, exSs, exS, evE.eq_1, evE.eq_2, evE.eq_3, evE.eq_4, evE.eq_5, evE.eq_6, evE.eq_7, evE.eq_8, evE.eq_9, evE.eq_10, evE.eq_11, evE.eq_12, evE.eq_13, evE.eq_14, evE.eq_15, evE.eq_16, evE.eq_17, evE.eq_18, evE.eq_19, evE.eq_20, evE.eq_21, evE.eq_22, evE.eq_23, evE.eq_24, evE.eq_25, evE.eq_26, evE.eq_27, evE.eq_28, evT, evL, evI, evC, evW, startF, setS, idxD, seqOf, ixN, binD, arI, setI, cmpD, intCmp, cmpI, truD, isAny, isD, isNo, pln, vw, eqD, biD, tidy_same, wipe, toR_nx, refIx, augV, valS]) (fun k hk x => by
        have gk := ndl_get (l := l) (k := k) (by omega)
        have ll : (ndl l).length = m := by rw [ndl_len, l1]
        generalize l.getD k 0 = v at gk ⊢
        unfold tn
        generalize ndl l = o1 at gk ll ⊢
        have hk' : (k : Int) < m := by omega
        simp (dsimp := false) (implicitDefEqProofs := false) [b26e0, ll, hk', gk, exSs, exS, evE.eq_1, evE.eq_2, evE.eq_3, evE.eq_4, evE.eq_5, evE.eq_6, evE.eq_7, evE.eq_8, evE.eq_9, evE.eq_10, evE.eq_11, evE.eq_12, evE.eq_13, evE.eq_14, evE.eq_15, evE.eq_16, evE.eq_17, evE.eq_18, evE.eq_19, evE.eq_20, evE.eq_21, evE.eq_22, evE.eq_23, evE.eq_24, evE.eq_25, evE.eq_26, evE.eq_27, evE.eq_28, evT, evL, evI, evC, evW, startF, setS, idxD, seqOf, ixN, binD, arI, setI, cmpD, intCmp, cmpI, truD, isAny, isD, isNo, pln, vw, eqD, biD, tidy_same, wipe, toR_nx, refIx, augV, valS])
      simp (dsimp := false) (implicitDefEqProofs := false) [b26, mkL, e1, h1, g1, e2, h2, g2, mn, mn2, mm, w1, w2, e3, h3, g3, e4, mt, mt2, e5, e6, hmw', e7, el, lstOf, exSs, exS, evE.eq_1, evE.eq_2, evE.eq_3, evE.eq_4, evE.eq_5, evE.eq_6, evE.eq_7, evE.eq_8, evE.eq_9, evE.eq_10, evE.eq_11, evE.eq_12, evE.eq_13, evE.eq_14, evE.eq_15, evE.eq_16, evE.eq_17, evE.eq_18, evE.eq_19, evE.eq_20, evE.eq_21, evE.eq_22, evE.eq_23, evE.eq_24, evE.eq_25, evE.eq_26, evE.eq_27, evE.eq_28, evT, evL, evI, evC, evW, startF, setS, idxD, seqOf, ixN, binD, arI, setI, cmpD, intCmp, cmpI, truD, isAny, isD, isNo, pln, vw, eqD, biD, tidy_same, wipe, toR_nx, refIx, augV, valS]
      have := q.tidyV (fz := true) (Y := []) q8 (lr_below _ l (π.map fun k => l.getD k 0))
      rw [List.append_nil] at this
      exact this
    · have hmw' : ((m : Int) == w) = true := by simp [hmw]
      have hz' : (((r7 : Nat) : Int) == 0) = false := beq_eq_false_iff_ne.mpr (by omega)
      refine ⟨l, r, S7, ?_, q7.mono (by omega), ⟨by omega, by omega, by omega⟩, by omega⟩
      simp (dsimp := false) (implicitDefEqProofs := false) [b26, mkL, e1, h1, g1, e2, h2, g2, mn, mn2, mm, w1, w2, e3, h3, g3, e4, mt, mt2, e5, e6, hmw', e7, hz', exSs, exS, evE.eq_1, evE.eq_2, evE.eq_3, evE.eq_4, evE.eq_5, evE.eq_6, evE.eq_7, evE.eq_8, evE.eq_9, evE.eq_10, evE.eq_11, evE.eq_12, evE.eq_13, evE.eq_14, evE.eq_15, evE.eq_16, evE.eq_17, evE.eq_18, evE.eq_19, evE.eq_20, evE.eq_21, evE.eq_22, evE.eq_23, evE.eq_24, evE.eq_25, evE.eq_26, evE.eq_27, evE.eq_28, evT, evL, evI, evC, evW, startF, setS, idxD, seqOf, ixN, binD, arI, setI, cmpD, intCmp, cmpI, truD, isAny, isD, isNo, pln, vw, eqD, biD, tidy_same, wipe, toR_nx, refIx, augV, valS]
      have := q.tidyV (fz := true) (Y := []) q7 (lr_below _ l r)
      rw [List.append_nil] at this
      exact this
  · refine ⟨l, r, S6, ?_, q6.mono (by omega), ⟨by omega, by omega, by omega⟩, by omega⟩
    have hmw' : ((m : Int) == w) = false := beq_eq_false_iff_ne.mpr (by omega)
    simp (dsimp := false) (implicitDefEqProofs := false) [b26, mkL, e1, h1, g1, e2, h2, g2, mn, mn2, mm, w1, w2, e3, h3, g3, e4, mt, mt2, e5, e6, hmw', exSs, exS, evE.eq_1, evE.eq_2, evE.eq_3, evE.eq_4, evE.eq_5, evE.eq_6, evE.eq_7, evE.eq_8, evE.eq_9, evE.eq_10, evE.eq_11, evE.eq_12, evE.eq_13, evE.eq_14, evE.eq_15, evE.eq_16, evE.eq_17, evE.eq_18, evE.eq_19, evE.eq_20, evE.eq_21, evE.eq_22, evE.eq_23, evE.eq_24, evE.eq_25, evE.eq_26, evE.eq_27, evE.eq_28, evT, evL, evI, evC, evW, startF, setS, idxD, seqOf, ixN, binD, arI, setI, cmpD, intCmp, cmpI, truD, isAny, isD, isNo, pln, vw, eqD, biD, tidy_same, wipe, toR_nx, refIx, augV, valS]
    have := q.tidyV (fz := true) (Y := []) q6 (lr_below _ l r)
    rw [List.append_nil] at this
    exact this
end Lw
end
section
set_option maxRecDepth 100000
set_option maxHeartbeats 8000000
namespace Lw
open Ev Lg
theorem cut_ndl {l : List Nat} {k : Nat} (h : k ≤ l.length) : cut (ndl l) none (some (k : Int)) = ndl (l.take k) := by rw [cut_lo _ _ (by rw [ndl_len]; exact h), ndl_take]
theorem sum_take (l : List Nat) (k : Nat) : ∃ L, allInt (ndl (l.take k)) = some L ∧ sumI L = ((pre l k : Nat) : Int) := ⟨_, allInt_ndl _, sumI_nd _⟩
theorem sh_in (n : Nat) (S W : Store) {l r : List Nat} {i : Nat} (hi : i < l.length) (hr : r.length ≤ 4) (out : Cell) (y2 y3 : Option D) : ∀ (c j : Nat) (row : List Nat) (y5 y6 : Option D), j + c = r.length → row = (List.range j).map (fun j => ov l r l.sum i j) →
    ∃ z5 z6, forL (.nm 5) (fun ρ S => exSs (csOf T (n + 1)) b27l0 ρ S) [] (upTo (j : Nat) c) [some (tn l), some (tn r), y2, some (.int (i : Nat)), some (.ref (S.length + (1 + W.length))), y5, y6] (S ++ (out :: (W ++ [.lst (ndl row)]))) = .nx [some (tn l), some (tn r), y2, some (.int (i : Nat)), some (.ref (S.length + (1 + W.length))), z5, z6] (S ++ (out :: (W ++ [.lst (ndl ((List.range r.length).map fun j => ov l r l.sum i j))])))
  | 0, j, row, y5, y6, h, hrow => ⟨y5, y6, by
    have : j = r.length := by omega
    rw [← this, ← hrow]
    exact forL_nil⟩
  | c + 1, j, row, y5, y6, h, hrow => by
    obtain ⟨z5, z6, e⟩ := sh_in n S W hi hr out y2 y3 c (j + 1) (row ++ [ov l r l.sum i j]) (some (.int (j : Nat))) (some (.int (max (pre l i) (pre r j) : Nat))) (by omega) (by rw [hrow, List.range_succ, List.map_append]; rfl)
    refine ⟨z5, z6, ?_⟩
    push_cast at e
    rw [← e]
    have c1 := cut_ndl (l := l) (k := i) (by omega)
    have c2 := cut_ndl (l := r) (k := j) (by omega)
    have c3 := cut_ndl (l := l) (k := i + 1) (by omega)
    have c4 := cut_ndl (l := r) (k := j + 1) (by omega)
    push_cast at c3 c4
    obtain ⟨L1, a1, s1⟩ := sum_take l i
    obtain ⟨L2, a2, s2⟩ := sum_take r j
    obtain ⟨L3, a3, s3⟩ := sum_take l (i + 1)
    obtain ⟨L4, a4, s4⟩ := sum_take r (j + 1)
    have o := ov_full (l := l) (r := r) i j
    have ll : row.length = j := by rw [hrow]; simp
    generalize ov l r l.sum i j = ovv at o ⊢
    generalize pre l i = p1 at *
    generalize pre r j = p2 at *
    generalize pre l (i + 1) = p3 at *
    generalize pre r (j + 1) = p4 at *
    have g : (S ++ (out :: (W ++ [.lst (ndl row)])))[S.length + (1 + W.length)]? = some (.lst (ndl row)) := by
      rw [ag, Nat.add_comm 1, List.getElem?_cons_succ]
      simp
    have st : (S ++ (out :: (W ++ [.lst (ndl row)]))).set (S.length + (1 + W.length)) (.lst (ndl row ++ [.int (ovv : Nat)])) = S ++ (out :: (W ++ [.lst (ndl (row ++ [ovv]))])) := by
      rw [as, Nat.add_comm 1, List.set_cons_succ, ndl_app]
      simp
    have lt : (ndl row).length < LIM := by rw [ndl_len]; unfold LIM; omega
    generalize S ++ (out :: (W ++ [.lst (ndl row)])) = Z at *
    generalize S ++ (out :: (W ++ [.lst (ndl (row ++ [ovv]))])) = Z2 at *
    generalize S.length + (1 + W.length) = q at *
    have m1 : (if p1 < p2 then (p2 : Int) else p1) = ((max p1 p2 : Nat) : Int) := by split <;> omega
    have m2 : (if p4 < p3 then (p4 : Int) else p3) = ((min p3 p4 : Nat) : Int) := by split <;> omega
    generalize hx : max p1 p2 = x at *
    generalize hy : min p3 p4 = y at *
    have m3 : (if (x : Int) < y then (y : Int) - x else 0) = (ovv : Nat) := by split <;> omega
    have m4 : (if x < y then (y : Int) - x else 0) = (ovv : Nat) := by split <;> omega
    exact forL_nx rfl (by simp (dsimp := false) (implicitDefEqProofs := false) [b27l0, slcD, c1, c2, c3, c4, lstOf, a1, a2, a3, a4, s1, s2, s3, s4, m1, m2, m3, m4, bmOk, bmD, g, lt, st, maxI, minI, exSs, exS, evE.eq_1, evE.eq_2, evE.eq_3, evE.eq_4, evE.eq_5, evE.eq_6, evE.eq_7, evE.eq_8, evE.eq_9, evE.eq_10, evE.eq_11, evE.eq_12, evE.eq_13, evE.eq_14, evE.eq_15, evE.eq_16, evE.eq_17, evE.eq_18, evE.eq_19, evE.eq_20, evE.eq_21, evE.eq_22, evE.eq_23, evE.eq_24, evE.eq_25, evE.eq_26, evE.eq_27, evE.eq_28, evT, evL, evI, evC, evW, startF, setS, idxD, seqOf, ixN, binD, arI, setI, cmpD, intCmp, cmpI, truD, isAny, isD, isNo, pln, vw, eqD, biD, tidy_same, wipe, toR_nx, refIx, augV, valS])
theorem sh_out (n : Nat) (S : Store) {l r : List Nat} (hl : l.length ≤ 4) (hr : r.length ≤ 4) : ∀ (c i : Nat) (W : Store) (rows : List (List Nat)) (y3 y4 y5 y6 : Option D), i + c = l.length → rows = (List.range i).map (fun i => (List.range r.length).map fun j => ov l r l.sum i j) →
    ∃ W' z3 z4 z5 z6, forL (.nm 3) (fun ρ S => exSs (csOf T (n + 1)) b27l1 ρ S) [] (upTo (i : Nat) c) [some (tn l), some (tn r), some (.ref S.length), y3, y4, y5, y6] (S ++ (.lst (rows.map tn) :: W)) = .nx [some (tn l), some (tn r), some (.ref S.length), z3, z4, z5, z6] (S ++ (.lst ((full l r).map tn) :: W'))
  | 0, i, W, rows, y3, y4, y5, y6, h, hrow => ⟨W, y3, y4, y5, y6, by
    have : i = l.length := by omega
    have e : rows = full l r := by rw [hrow, this]; rfl
    rw [e]
    exact forL_nil⟩
  | c + 1, i, W, rows, y3, y4, y5, y6, h, hrow => by
    have hi : i < l.length := by omega
    obtain ⟨z5, z6, e1⟩ := sh_in n S W hi hr (.lst (rows.map tn)) (some (.ref S.length)) (some (.int (i : Nat))) r.length 0 [] y5 y6 (by omega) rfl
    obtain ⟨W', w3, w4, w5, w6, e⟩ := sh_out n S hl hr c (i + 1) (W ++ [.lst (ndl ((List.range r.length).map fun j => ov l r l.sum i j))]) (rows ++ [(List.range r.length).map fun j => ov l r l.sum i j]) (some (.int (i : Nat))) (some (.ref (S.length + (1 + W.length)))) z5 z6 (by omega) (by rw [hrow, List.range_succ, List.map_append]; rfl)
    refine ⟨W', w3, w4, w5, w6, ?_⟩
    push_cast at e
    rw [← e]
    have lim : (r.length : Int) ≤ LIM ∧ -(LIM : Int) ≤ r.length := by unfold LIM; omega
    have lr : rows.length = i := by rw [hrow]; simp
    generalize (List.range r.length).map (fun j => ov l r l.sum i j) = row at *
    have z0 : ((0 : Nat) : Int) = 0 := rfl
    have ez : ndl ([] : List Nat) = [] := rfl
    rw [z0, ez] at e1
    have len : (S ++ (.lst (rows.map tn) :: W)).length = S.length + (1 + W.length) := by simp; omega
    have ap : S ++ (.lst (rows.map tn) :: W) ++ [.lst []] = S ++ (.lst (rows.map tn) :: (W ++ [.lst []])) := by simp
    have g0 := ag0 S (.lst (rows.map tn) :: (W ++ [.lst (ndl row)]))
    simp only [List.getElem?_cons_zero] at g0
    have g1 : (S ++ (.lst (rows.map tn) :: (W ++ [.lst (ndl row)])))[S.length + (1 + W.length)]? = some (.lst (ndl row)) := by
      rw [ag, Nat.add_comm 1, List.getElem?_cons_succ]
      simp
    have s0 : (S ++ (Cell.lst (rows.map tn) :: (W ++ [Cell.lst (ndl row)]))).set S.length (.lst (rows.map tn ++ [tn row])) = S ++ (.lst ((rows ++ [row]).map tn) :: (W ++ [.lst (ndl row)])) := by
      rw [as0]
      simp
    have lt : (rows.map tn).length < LIM := by rw [List.length_map]; unfold LIM; omega
    generalize S ++ (.lst (rows.map tn) :: (W ++ [.lst (ndl row)])) = Z at *
    generalize S ++ (.lst (rows.map tn) :: (W ++ [.lst []])) = Z0 at *
    generalize S ++ (.lst (rows.map tn) :: W) = Z1 at *
    generalize S ++ (.lst ((rows ++ [row]).map tn) :: (W ++ [.lst (ndl row)])) = Z2 at *
    generalize rows.map tn = rm at *
    exact forL_nx rfl (by simp (dsimp := false) (implicitDefEqProofs := false) [b27l1, mkL, len, ap, ndl_len, rngIt, lim, e1, bmOk, bmD, g0, g1, lstOf, lt, s0, exSs, exS, evE.eq_1, evE.eq_2, evE.eq_3, evE.eq_4, evE.eq_5, evE.eq_6, evE.eq_7, evE.eq_8, evE.eq_9, evE.eq_10, evE.eq_11, evE.eq_12, evE.eq_13, evE.eq_14, evE.eq_15, evE.eq_16, evE.eq_17, evE.eq_18, evE.eq_19, evE.eq_20, evE.eq_21, evE.eq_22, evE.eq_23, evE.eq_24, evE.eq_25, evE.eq_26, evE.eq_27, evE.eq_28, evT, evL, evI, evC, evW, startF, setS, idxD, seqOf, ixN, binD, arI, setI, cmpD, intCmp, cmpI, truD, isAny, isD, isNo, pln, vw, eqD, biD, tidy_same, wipe, toR_nx, refIx, augV, valS])
theorem f_shared (n : Nat) {l r : List Nat} (hl : l.length ≤ 4) (hr : r.length ≤ 4) (S : Store) : run T (n + 2) 27 [tn l, tn r] S = .ok (tbD (full l r)) S := by
  obtain ⟨W', z3, z4, z5, z6, e⟩ := sh_out n S hl hr l.length 0 [] [] none none none none (by omega) rfl
  have z0 : ((0 : Nat) : Int) = 0 := rfl
  rw [z0, List.map_nil] at e
  have g0 := ag0 S (.lst ((full l r).map tn) :: W')
  simp only [List.getElem?_cons_zero] at g0
  have lim : (l.length : Int) ≤ LIM ∧ -(LIM : Int) ≤ l.length := by unfold LIM; omega
  rw [run_def (F := ⟨2, 7, b27, false⟩) rfl rfl]
  simp (dsimp := false) (implicitDefEqProofs := false) [b27, mkL, ndl_len, rngIt, lim, e, lstOf, g0, -List.map_map, exSs, exS, evE.eq_1, evE.eq_2, evE.eq_3, evE.eq_4, evE.eq_5, evE.eq_6, evE.eq_7, evE.eq_8, evE.eq_9, evE.eq_10, evE.eq_11, evE.eq_12, evE.eq_13, evE.eq_14, evE.eq_15, evE.eq_16, evE.eq_17, evE.eq_18, evE.eq_19, evE.eq_20, evE.eq_21, evE.eq_22, evE.eq_23, evE.eq_24, evE.eq_25, evE.eq_26, evE.eq_27, evE.eq_28, evT, evL, evI, evC, evW, startF, setS, idxD, seqOf, ixN, binD, arI, setI, cmpD, intCmp, cmpI, truD, isAny, isD, isNo, pln, vw, eqD, biD, tidy_same, wipe, toR_nx, refIx, augV, valS]
  exact tidy_drop (by
    have := tb_belowL S.length (full l r)
    simp only [below, this])
theorem tb_sm (t : List (List Nat)) (h : t.length ≤ 1000) (h2 : ∀ row ∈ t, row.length ≤ 1000) : sm 2 (tbD t) = true := by
  have smr : ∀ L : List Nat, smL 0 (ndl L) = true := by
    intro L
    induction L with
    | nil => rfl
    | cons a L ih =>
      show (sm 0 (.int (a : Nat)) && smL 0 (ndl L)) = true
      rw [ih]
      rfl
  have : ∀ t : List (List Nat), (∀ row ∈ t, row.length ≤ 1000) → smL 1 (t.map tn) = true := by
    intro t
    induction t with
    | nil => intro _; rfl
    | cons row t ih =>
      intro h
      have h1 := h row List.mem_cons_self
      have h2 := ih fun x hx => h x (List.mem_cons_of_mem _ hx)
      simp [smL, sm, smr, h2, ndl_len, h1]
  simp [sm, this t h2, h]
theorem full_tb {l r : List Nat} (hm : Mg l r) : Tb (full l r) l r := by
  refine ⟨tab_len l r _, fun i hi => ⟨?_, row_sum hm.sm hi⟩, fun j hj => col_sum hm.sm hj⟩
  have hmem : (full l r).getD i [] ∈ full l r := by
    have fl : (full l r).length = l.length := tab_len l r _
    rw [List.getD_eq_getElem?_getD, List.getElem?_eq_getElem (by omega), Option.getD_some]
    exact List.getElem_mem _
  exact full_row_len _ hmem
end Lw
end
section
set_option maxRecDepth 100000
set_option maxHeartbeats 8000000
namespace Lw
open Ev Lg
theorem const_ev (n : Nat) {own : List Nat} {v i : Nat} {e : Ex} {ρ : Fr} {S : Store} {l : List Nat} (x0 : Int) (hl : l.length ≤ 1000) (hi : ρ[i]? = some (some (tn l)))
    (he : ∀ d x, evE (csOf T n) e (setS (wipe ρ own) v d) (S ++ [x]) = .ok (.int x0) (S ++ [x])) :
    evE (csOf T n) (.lc false own (.nm v) (.seq (.var i)) .no e) ρ S = .ok (.lst ((List.replicate l.length x0).map .int)) S := by
  have em : (ndl l).map (fun _ => D.int x0) = (List.replicate l.length x0).map .int := by
    unfold ndl
    rw [List.map_map, List.map_replicate]
    exact List.map_const' ..
  have := lc_map (C := csOf T n) (own := own) (tg := .nm v) (it := .seq (.var i)) (e := e) (ρ := ρ) (S := S) (l := ndl l) (g := []) (fun _ => .int x0) (by simp (dsimp := false) (implicitDefEqProofs := false) [hi, seqIt, Ev.guard, exSs, exS, evE.eq_1, evE.eq_2, evE.eq_3, evE.eq_4, evE.eq_5, evE.eq_6, evE.eq_7, evE.eq_8, evE.eq_9, evE.eq_10, evE.eq_11, evE.eq_12, evE.eq_13, evE.eq_14, evE.eq_15, evE.eq_16, evE.eq_17, evE.eq_18, evE.eq_19, evE.eq_20, evE.eq_21, evE.eq_22, evE.eq_23, evE.eq_24, evE.eq_25, evE.eq_26, evE.eq_27, evE.eq_28, evT, evL, evI, evC, evW, startF, setS, idxD, seqOf, ixN, binD, arI, setI, cmpD, intCmp, cmpI, truD, isAny, isD, isNo, pln, vw, eqD, biD, tidy_same, wipe, toR_nx, refIx, augV, valS]) (fun c => gOk_nil _) (fun d hd x => ⟨_, rfl, he d x⟩) (by rw [ndl_len]; exact lim_le hl) (by rw [em]; exact belowL_ints _ _)
  rw [em] at this
  exact this
theorem price_ev (n : Nat) {S : Store} {l r : List Nat} {p : Int} (hm : Mg l r) (x0 x1 x2 x3 x5 x6 x7 x8 x11 x12 : Option D) :
    evE (csOf T n) (.lc false [11] (.nm 11) (.seq (.var 9)) .no b28e3) [x0, x1, x2, x3, some (.int p), x5, x6, x7, x8, some (tn l), some (tn r), x11, x12] S = .ok (.lst ((PR l.length r.length p).map tupI)) S := by
  have hl := hm.ll
  have hr := hm.rl
  have em : (ndl l).map (fun _ => tupI (List.replicate r.length p)) = (PR l.length r.length p).map tupI := by
    unfold ndl PR
    rw [List.map_map, List.map_replicate]
    exact List.map_const' ..
  have := lc_map (C := csOf T n) (own := [11]) (tg := .nm 11) (it := .seq (.var 9)) (e := b28e3) (ρ := [x0, x1, x2, x3, some (.int p), x5, x6, x7, x8, some (tn l), some (tn r), x11, x12]) (S := S) (l := ndl l) (g := []) (fun _ => tupI (List.replicate r.length p)) (by simp (dsimp := false) (implicitDefEqProofs := false) [seqIt, Ev.guard, exSs, exS, evE.eq_1, evE.eq_2, evE.eq_3, evE.eq_4, evE.eq_5, evE.eq_6, evE.eq_7, evE.eq_8, evE.eq_9, evE.eq_10, evE.eq_11, evE.eq_12, evE.eq_13, evE.eq_14, evE.eq_15, evE.eq_16, evE.eq_17, evE.eq_18, evE.eq_19, evE.eq_20, evE.eq_21, evE.eq_22, evE.eq_23, evE.eq_24, evE.eq_25, evE.eq_26, evE.eq_27, evE.eq_28, evT, evL, evI, evC, evW, startF, setS, idxD, seqOf, ixN, binD, arI, setI, cmpD, intCmp, cmpI, truD, isAny, isD, isNo, pln, vw, eqD, biD, tidy_same, wipe, toR_nx, refIx, augV, valS]) (fun c => gOk_nil _) (fun d hd x => ⟨_, rfl, by
    have ec := const_ev n (own := [12]) (v := 12) (i := 10) (e := b28e2) (ρ := [x0, x1, x2, x3, some (.int p), x5, x6, x7, x8, some (tn l), some (tn r), some d, x12]) (S := S ++ [x]) (l := r) p (by omega) rfl (fun d x => by simp (dsimp := false) (implicitDefEqProofs := false) [b28e2, exSs, exS, evE.eq_1, evE.eq_2, evE.eq_3, evE.eq_4, evE.eq_5, evE.eq_6, evE.eq_7, evE.eq_8, evE.eq_9, evE.eq_10, evE.eq_11, evE.eq_12, evE.eq_13, evE.eq_14, evE.eq_15, evE.eq_16, evE.eq_17, evE.eq_18, evE.eq_19, evE.eq_20, evE.eq_21, evE.eq_22, evE.eq_23, evE.eq_24, evE.eq_25, evE.eq_26, evE.eq_27, evE.eq_28, evT, evL, evI, evC, evW, startF, setS, idxD, seqOf, ixN, binD, arI, setI, cmpD, intCmp, cmpI, truD, isAny, isD, isNo, pln, vw, eqD, biD, tidy_same, wipe, toR_nx, refIx, augV, valS])
    simp (dsimp := false) (implicitDefEqProofs := false) [b28e3, ec, lstOf, tupI, -List.map_replicate, exSs, exS, evE.eq_1, evE.eq_2, evE.eq_3, evE.eq_4, evE.eq_5, evE.eq_6, evE.eq_7, evE.eq_8, evE.eq_9, evE.eq_10, evE.eq_11, evE.eq_12, evE.eq_13, evE.eq_14, evE.eq_15, evE.eq_16, evE.eq_17, evE.eq_18, evE.eq_19, evE.eq_20, evE.eq_21, evE.eq_22, evE.eq_23, evE.eq_24, evE.eq_25, evE.eq_26, evE.eq_27, evE.eq_28, evT, evL, evI, evC, evW, startF, setS, idxD, seqOf, ixN, binD, arI, setI, cmpD, intCmp, cmpI, truD, isAny, isD, isNo, pln, vw, eqD, biD, tidy_same, wipe, toR_nx, refIx, augV, valS]⟩) (by rw [ndl_len]; exact lim_le (by omega)) (by rw [em]; exact belowL_tups _ _)
  rw [em] at this
  exact this
theorem all_loop (n : Nat) {ns : List Int} (x0 : Option D) : ∀ (c i k : Nat) (S : Store) (x2 x3 x4 x5 x6 x7 x8 x9 x10 x11 x12 : Option D), QD ns [] k S → k + 100 * c < 2 ^ 30 →
    ∃ (S' : Store) (w2 w3 w4 w5 w6 w7 w8 w9 w10 w11 w12 : Option D), forL (.nm 2) (fun ρ S => exSs (csOf T (n + 8)) b28l0 ρ S) [] (upTo (i : Nat) c) [x0, some (.ref 0), x2, x3, x4, x5, x6, x7, x8, x9, x10, x11, x12] S = .nx [x0, some (.ref 0), w2, w3, w4, w5, w6, w7, w8, w9, w10, w11, w12] S' ∧ QD ns [] (k + 100 * c) S'
  | 0, i, k, S, x2, x3, x4, x5, x6, x7, x8, x9, x10, x11, x12, q, hk => ⟨S, x2, x3, x4, x5, x6, x7, x8, x9, x10, x11, x12, forL_nil, q⟩
  | c + 1, i, k, S, x2, x3, x4, x5, x6, x7, x8, x9, x10, x11, x12, q, hk => by
    obtain ⟨l, r, S1, e1, q1, hm, hs⟩ := f_margins (n + 4) q (by omega)
    obtain ⟨a, S2, e6, q2, ha⟩ := dq q1 (by omega) (m := 19) (by omega) (by omega) (n + 7)
    have hb : l.sum < 2 ^ 100 := by omega
    have hm' : Mg r l := ⟨hm.rl, hm.ll, hm.sm.symm⟩
    obtain ⟨p, hp⟩ : ∃ p, p = (a : Int) - 9 := ⟨_, rfl⟩
    have hpw : p.natAbs < 2 ^ 100 := by omega
    obtain ⟨S', w2, w3, w4, w5, w6, w7, w8, w9, w10, w11, w12, e, qf⟩ := all_loop n x0 c (i + 1) (k + 100) S2 (some (.int (i : Nat))) (some (tbD (full l r))) (some (.int p)) (some (prD l.length r.length p)) (some (.int (p * (l.sum : Nat)))) (some (ppD l.length r.length p)) (some (.tup [.int (p * (l.sum : Nat)), tbD (full l r)])) (some (tn l)) (some (tn r)) x11 x12 (q2.mono (by omega)) (by omega)
    refine ⟨S', w2, w3, w4, w5, w6, w7, w8, w9, w10, w11, w12, ?_, qf.mono (by omega)⟩
    push_cast at e
    rw [← e]
    have hS : ∀ c ∈ S2, belowC 0 c = true := by
      obtain ⟨⟨hn, hX⟩, a, b, c, rfl, h⟩ := q2
      intro x hx
      rcases List.mem_cons.mp hx with rfl | hx
      · simp [stc, belowC, belowL, below]
      · simp at hx
    have fl : (full l r).length = l.length := tab_len l r _
    have fl2 : (full r l).length = r.length := tab_len r l _
    have hl4 := hm.ll
    have hr4 := hm.rl
    have e2 := f_shared (n + 6) hm.ll hm.rl S1
    have e3 := f_corner (n + 3) hm S1
    have s1 := sam 2 (tbD (full l r)) (tb_sm _ (by omega) fun row h => by rw [full_row_len row h]; omega) (n := n + 7) (by omega) S1
    have e4 := f_corner (n + 3) hm' S1
    have e5 := f_shared (n + 6) hm.rl hm.ll S1
    have s2 := sam 2 (tbD (full r l)) (tb_sm _ (by omega) fun row h => by rw [full_row_len row h]; omega) (n := n + 7) (by omega) S1
    have ep := price_ev (n + 8) (S := S2) (p := p) hm x0 (some (.ref 0)) (some (.int (i : Nat))) (some (tbD (full l r))) x5 x6 x7 x8 x11 x12
    have w1 : p.natAbs < Wd := wd_n (by omega)
    have w2' : l.sum < Wd := wd_n (by omega)
    have tbx := full_tb hm
    have h1 := f_holds (n + 2) hm tbx hb hpw (p * (l.sum : Nat)) S2
    have h2 := f_holds (n + 2) hm tbx hb hpw (p * (l.sum : Nat) + 1) S2
    have d1 : decide (p * (l.sum : Nat) = p * (l.sum : Nat)) = true := by simp
    have d2 : decide (p * (l.sum : Nat) + 1 = p * (l.sum : Nat)) = false := by simp; omega
    rw [d1] at h1
    rw [d2] at h2
    have et := f_ltab (n + 1) hS hm hb hpw
    have ai := allInt_ndl l
    have sm0 := sumI_nd l
    have ec1 := const_ev (n + 8) (own := [11]) (v := 11) (i := 9) (e := b28e1) (ρ := [x0, some (.ref 0), some (.int (i : Nat)), some (tbD (full l r)), some (.int p), some (prD l.length r.length p), some (.int (p * (l.sum : Nat))), x7, x8, some (tn l), some (tn r), x11, x12]) (S := S2) (l := l) p (by omega) rfl (fun d x => by simp (dsimp := false) (implicitDefEqProofs := false) [b28e1, exSs, exS, evE.eq_1, evE.eq_2, evE.eq_3, evE.eq_4, evE.eq_5, evE.eq_6, evE.eq_7, evE.eq_8, evE.eq_9, evE.eq_10, evE.eq_11, evE.eq_12, evE.eq_13, evE.eq_14, evE.eq_15, evE.eq_16, evE.eq_17, evE.eq_18, evE.eq_19, evE.eq_20, evE.eq_21, evE.eq_22, evE.eq_23, evE.eq_24, evE.eq_25, evE.eq_26, evE.eq_27, evE.eq_28, evT, evL, evI, evC, evW, startF, setS, idxD, seqOf, ixN, binD, arI, setI, cmpD, intCmp, cmpI, truD, isAny, isD, isNo, pln, vw, eqD, biD, tidy_same, wipe, toR_nx, refIx, augV, valS])
    have ec0 := const_ev (n + 8) (own := [12]) (v := 12) (i := 10) (e := b28e0) (ρ := [x0, some (.ref 0), some (.int (i : Nat)), some (tbD (full l r)), some (.int p), some (prD l.length r.length p), some (.int (p * (l.sum : Nat))), x7, x8, some (tn l), some (tn r), x11, x12]) (S := S2) (l := r) 0 (by omega) rfl (fun d x => by simp (dsimp := false) (implicitDefEqProofs := false) [b28e0, exSs, exS, evE.eq_1, evE.eq_2, evE.eq_3, evE.eq_4, evE.eq_5, evE.eq_6, evE.eq_7, evE.eq_8, evE.eq_9, evE.eq_10, evE.eq_11, evE.eq_12, evE.eq_13, evE.eq_14, evE.eq_15, evE.eq_16, evE.eq_17, evE.eq_18, evE.eq_19, evE.eq_20, evE.eq_21, evE.eq_22, evE.eq_23, evE.eq_24, evE.eq_25, evE.eq_26, evE.eq_27, evE.eq_28, evT, evL, evI, evC, evW, startF, setS, idxD, seqOf, ixN, binD, arI, setI, cmpD, intCmp, cmpI, truD, isAny, isD, isNo, pln, vw, eqD, biD, tidy_same, wipe, toR_nx, refIx, augV, valS])
    have t1 := sam 0 (.bl true) rfl (n := n + 7) (by omega) S2
    have t2 := sam 0 (.bl false) rfl (n := n + 7) (by omega) S2
    have t3 := sam 0 (.int (p * (l.sum : Nat))) rfl (n := n + 7) (by omega) S2
    have dp : (a : Int) - 9 = p := hp.symm
    generalize hC : p * ((l.sum : Nat) : Int) = C0 at *
    have hpp : ppD l.length r.length p = .tup [.tup ((List.replicate l.length p).map .int), .tup ((List.replicate r.length 0).map .int)] := rfl
    rw [hpp] at h1 h2 ⊢
    refine forL_nx rfl ?_
    simp (dsimp := false) (implicitDefEqProofs := false) [b28l0, e1, setT, setAll, e2, e3, s1, pick, e4, e5, s2, e6, dp, ep, hC, lstOf, ai, sm0, w1, w2', ec1, ec0, h1, t1, h2, t2, et, t3, -List.map_map, -List.map_replicate, exSs, exS, evE.eq_1, evE.eq_2, evE.eq_3, evE.eq_4, evE.eq_5, evE.eq_6, evE.eq_7, evE.eq_8, evE.eq_9, evE.eq_10, evE.eq_11, evE.eq_12, evE.eq_13, evE.eq_14, evE.eq_15, evE.eq_16, evE.eq_17, evE.eq_18, evE.eq_19, evE.eq_20, evE.eq_21, evE.eq_22, evE.eq_23, evE.eq_24, evE.eq_25, evE.eq_26, evE.eq_27, evE.eq_28, evT, evL, evI, evC, evW, startF, setS, idxD, seqOf, ixN, binD, arI, setI, cmpD, intCmp, cmpI, truD, isAny, isD, isNo, pln, vw, eqD, biD, tidy_same, wipe, toR_nx, refIx, augV, valS]
theorem asked : Asked T 200 29 := by
  intro ns hn
  obtain ⟨S, e0, q⟩ := box 197 hn
  obtain ⟨S', w2, w3, w4, w5, w6, w7, w8, w9, w10, w11, w12, e, qf⟩ := all_loop 190 (some (.lst (ns.map .int))) 3 0 0 S none none none none none none none none none none none q (by omega)
  have z0 : ((0 : Nat) : Int) = 0 := rfl
  rw [z0] at e
  have lim : (3 : Int) ≤ LIM ∧ -(LIM : Int) ≤ 3 := by decide
  have ea : ∃ S, run T 199 28 [.lst (ns.map .int)] [] = .ok (.bl true) S := by
    rw [run_def (n := 198) (F := ⟨1, 13, b28, true⟩) rfl rfl]
    simp (dsimp := false) (implicitDefEqProofs := false) [b28, e0, rngIt, lim, e, exSs, exS, evE.eq_1, evE.eq_2, evE.eq_3, evE.eq_4, evE.eq_5, evE.eq_6, evE.eq_7, evE.eq_8, evE.eq_9, evE.eq_10, evE.eq_11, evE.eq_12, evE.eq_13, evE.eq_14, evE.eq_15, evE.eq_16, evE.eq_17, evE.eq_18, evE.eq_19, evE.eq_20, evE.eq_21, evE.eq_22, evE.eq_23, evE.eq_24, evE.eq_25, evE.eq_26, evE.eq_27, evE.eq_28, evT, evL, evI, evC, evW, startF, setS, idxD, seqOf, ixN, binD, arI, setI, cmpD, intCmp, cmpI, truD, isAny, isD, isNo, pln, vw, eqD, biD, tidy_same, wipe, toR_nx, refIx, augV, valS]
    exact ⟨[], by simp [tidy, cutOk, below]⟩
  obtain ⟨S2, ea⟩ := ea
  rw [run_def (n := 199) (F := ⟨1, 1, b29, true⟩) rfl rfl]
  simp (dsimp := false) (implicitDefEqProofs := false) [b29, ea, exSs, exS, evE.eq_1, evE.eq_2, evE.eq_3, evE.eq_4, evE.eq_5, evE.eq_6, evE.eq_7, evE.eq_8, evE.eq_9, evE.eq_10, evE.eq_11, evE.eq_12, evE.eq_13, evE.eq_14, evE.eq_15, evE.eq_16, evE.eq_17, evE.eq_18, evE.eq_19, evE.eq_20, evE.eq_21, evE.eq_22, evE.eq_23, evE.eq_24, evE.eq_25, evE.eq_26, evE.eq_27, evE.eq_28, evT, evL, evI, evC, evW, startF, setS, idxD, seqOf, ixN, binD, arI, setI, cmpD, intCmp, cmpI, truD, isAny, isD, isNo, pln, vw, eqD, biD, tidy_same, wipe, toR_nx, refIx, augV, valS]
  exact ⟨[], by simp [tidy, cutOk, below]⟩
end Lw
theorem PySem.Challenge.cw_piecerealm_k42_corners_filled_holds : PySem.Challenge.rw_piecerealm_k42_corners_filled.Holds := by
  exact PySem.Challenge.cw_piecerealm_k42_corners_filled_from Lw.asked
end
